import PyProof.Rows.All
import Wide.All
import OpenK.AllK
import Wide.FinOn
import HandS.ForMost
import HandS.ForExc
import HandS.TupAny
import HandS.IsInst
import HandS.Zip
import HandS.HeadHook1
import HandS.Defaults
import HandS.WordsExc
import HandS.HeadHook2
import HandS.HeadEnd
import HandS.HeadHook4
import HandS.Head0
import HandS.Head1
import HandS.Head2
import PySem.Challenge.RW_leafward_k01_sizes_and_order
set_option Elab.async false
set_option linter.all false
set_option maxRecDepth 100000
/-! LwA: data, stores, and an evaluator of the text's own trees, in plain Lean (no heap). -/
namespace Lw
open PySem

/-- data: numbers, texts, tuples; lists that nobody changes any more; a thing in the store -/
inductive D where
  | non | bl (b : Bool) | int (i : Int) | str (x : Str) | tup (ds : List D) | lst (ds : List D) | ref (i : Nat)
  deriving Inhabited
/-- what the store holds -/
inductive MO where
  | lst (ds : List D)
  deriving Inhabited
abbrev Sto := List MO
/-- a name's slot: nothing, data, a list of the frame's own that is still changed -/
inductive Sl where
  | un | val (d : D) | own (ds : List D)
  deriving Inhabited
abbrev Ev := List Sl
inductive R (α : Type) where
  | ok (a : α) (S : Sto) | err (c : Str) (S : Sto) | bad
def R.bind {α β : Type} (r : R α) (f : α → Sto → R β) : R β := match r with
  | .ok a S => f a S
  | .err c S => .err c S
  | .bad => .bad
/-- an error is not followed (within a comprehension) -/
def R.noe {α : Type} (r : R α) : R α := match r with
  | .err _ _ => .bad
  | r => r
def R.opt {α : Type} (o : Option α) (S : Sto) : R α := match o with
  | some a => .ok a S
  | none => .bad
/-- how a statement ends -/
inductive O where
  | nx (ρ : Ev) (S : Sto) | ret (d : D) (S : Sto) | brk (ρ : Ev) (S : Sto) | cnt (ρ : Ev) (S : Sto) | err (c : Str) (ρ : Ev) (S : Sto) | bad
def R.run {α : Type} (r : R α) (ρ : Ev) (f : α → Sto → O) : O := match r with
  | .ok a S => f a S
  | .err c S => .err c ρ S
  | .bad => .bad
def O.seq (o : O) (f : Ev → Sto → O) : O := match o with
  | .nx ρ S => f ρ S
  | o => o

abbrev LINE : Nat := 16777216

/-! ### what data are to Python's == -/
mutual
def D.py : D → PyData
  | .non => .none | .bl b => .bool b | .int i => .int i | .str x => .str x | .tup ds => .tuple (D.pys ds) | .lst ds => .list (D.pys ds) | .ref _ => .dict []
def D.pys : List D → List PyData
  | [] => []
  | d :: ds => d.py :: D.pys ds
end
mutual
def D.plain : D → Bool
  | .tup ds => D.plains ds | .lst ds => D.plains ds | .ref _ => false | _ => true
def D.plains : List D → Bool
  | [] => true
  | d :: ds => d.plain && D.plains ds
end
def D.eqv (a b : D) : Option Bool := if a.plain && b.plain && SeqAt.shaped a.py && SeqAt.shaped b.py then some (PyData.eqv a.py b.py) else none

/-- a list of the store is seen as a list -/
def view (S : Sto) : D → D
  | .ref i => match S[i]? with
    | some (.lst ds) => .lst ds
    | none => .ref i
  | d => d

/-! ### operators -/
def inR64 (i : Int) : Bool := decide (-(2 ^ 64) < i ∧ i < 2 ^ 64)
def binD : Operator → D → D → Option D
  | .Add, .int i, .int j => some (.int (i + j))
  | .Add, .str x, .str y => if x.length + y.length ≤ LINE then some (.str (x ++ y)) else none
  | .Add, .tup a, .tup b => if a.length + b.length ≤ LINE then some (.tup (a ++ b)) else none
  | .Add, .lst a, .lst b => if a.length + b.length ≤ LINE then some (.lst (a ++ b)) else none
  | .Sub, .int i, .int j => some (.int (i - j))
  | .Mult, .int i, .int j => if inR64 i || inR64 j then some (.int (i * j)) else none
  | .FloorDiv, .int i, .int j => if 0 < j ∧ j < 1073741824 then some (.int (i / j)) else none
  | .Mod, .int i, .int j => if 0 < j then some (.int (i % j)) else none
  | .Pow, .int i, .int j => if 0 ≤ j ∧ j ≤ 1000000 ∧ i.natAbs < 2 ^ 64 then some (.int (i ^ j.toNat)) else none
  | _, _, _ => none
def lexLe : List Int → List Int → Bool
  | [], _ => true
  | _ :: _, [] => false
  | a :: as, b :: bs => if a = b then lexLe as bs else decide (a < b)
def intsOf : List D → Option (List Int)
  | [] => some []
  | .int i :: ds => (intsOf ds).map (i :: ·)
  | _ :: _ => none
def cmpD : CmpOp → D → D → Option Bool
  | .Eq, a, b => D.eqv a b
  | .NotEq, a, b => (D.eqv a b).map (!·)
  | .Lt, .int i, .int j => some (decide (i < j))
  | .LtE, .int i, .int j => some (decide (i ≤ j))
  | .Gt, .int i, .int j => some (decide (j < i))
  | .GtE, .int i, .int j => some (decide (j ≤ i))
  | .Is, .ref _, .non => none
  | .Is, a, .non => some (match a with | .non => true | _ => false)
  | .IsNot, .ref _, .non => none
  | .IsNot, a, .non => some (match a with | .non => false | _ => true)
  | _, _, _ => none
def truD : D → Option Bool
  | .non => some false
  | .bl b => some b
  | .int i => some (i != 0)
  | .str x => if x.length ≤ LINE then some ((x.length : Int) != 0) else none
  | .tup ds => some (!ds.isEmpty)
  | .lst ds => some (!ds.isEmpty)
  | .ref _ => none
def itemD : D → D → Option D
  | .tup ds, .int i => L2.atI ds i
  | .lst ds, .int i => L2.atI ds i
  | _, _ => none
def cutD {α : Type} (xs : List α) (lo hi : Option Int) : List α := (xs.drop (HT.sIx xs.length 0 lo)).take (HT.sIx xs.length xs.length hi - HT.sIx xs.length 0 lo)
def sliceD : D → Option Int → Option Int → Option D
  | .tup ds, lo, hi => some (.tup (cutD ds lo hi))
  | _, _, _ => none

/-! ### built-ins (their arguments seen) -/
def isiD (T : Str) : D → Option Bool
  | .ref _ => none
  | d => if T = "int" then some (match d with | .int _ => true | .bl _ => true | _ => false)
    else if T = "bool" then some (match d with | .bl _ => true | _ => false)
    else if T = "str" then some (match d with | .str _ => true | _ => false)
    else if T = "tuple" then some (match d with | .tup _ => true | _ => false)
    else none
def sumD : List D → Option Int
  | [] => some 0
  | .int i :: ds => (sumD ds).map (i + ·)
  | _ => none
def callD (f : Str) : List D → Option D
  | [d] =>
    if f = "len" then (match d with
      | .tup ds => some (.int ds.length)
      | .lst ds => some (.int ds.length)
      | .str x => if x.length ≤ LINE then some (.int x.length) else none
      | _ => none)
    else if f = "sum" then (match d with
      | .lst ds => (intsOf ds).map fun is => .int is.sum
      | _ => none)
    else if f = "tuple" then (match d with
      | .lst ds => some (.tup ds)
      | .tup ds => some (.tup ds)
      | _ => none)
    else if f = "abs" then (match d with
      | .int i => some (.int (if i < 0 then -i else i))
      | _ => none)
    else if f = "int" then (match d with
      | .int i => some (.int i)
      | .bl k => some (.int (if k then 1 else 0))
      | _ => none)
    else none
  | [.int i, .int j] =>
    if f = "max" then some (.int (if j > i then j else i))
    else if f = "min" then some (.int (if j < i then j else i))
    else none
  | _ => none

def biC (x : Str) : Bool := decide (x = "len") || decide (x = "sum") || decide (x = "tuple") || decide (x = "abs") || decide (x = "int") || decide (x = "max") || decide (x = "min")
def isT (T : Str) : Bool := decide (T = "int") || decide (T = "bool") || decide (T = "str") || decide (T = "tuple")

/-! ### names -/
def kindB (sc : Scope) (x : Str) : Option NameKind := sc.names.lookup x
def visB (sc : Scope) (x : Str) : Bool := match kindB sc x with
  | some .local => true | some .cell => true | some .free => true | _ => false
def locB (sc : Scope) (x : Str) : Bool := match kindB sc x with
  | some .local => true | some .cell => true | _ => false
def glB (sc : Scope) (x : Str) : Bool := match kindB sc x with
  | some .globalImplicit => true | _ => false
def plainName (x : Str) : Bool := !(x == "__debug__") && !(x == "__classdict__") && !(x == "__name__")
def ixOf (N : List Str) (x : Str) : Nat := N.findIdx (· == x)
def getSl (ρ : Ev) (i : Nat) : Sl := ρ.getD i .un

/-- a def of the text -/
structure Fd where
  ps : List Str
  N : List Str
  body : List Stmt
  sc : Scope
  boxy : Bool := false
/-- the module: constants, defs, classes of exceptions -/
structure G where
  con : Str → Option D
  fn : Str → Option Fd
  exc : Str → Bool
  bi : Str → Bool

def notStar : Expr → Bool
  | .Starred _ _ => false
  | _ => true
def isTup : Expr → Bool
  | .Tuple _ _ _ => true
  | _ => false
def notSet : Expr → Bool
  | .Set _ _ _ => false
  | _ => true
abbrev Call := Str → List D → Sto → R D

/-! ### names in general position: lists of one's own that stand so are given away -/
def eatB (f : Str) : Bool := f == "len" || f == "sum" || f == "tuple" || f == "abs" || f == "int" || f == "max" || f == "min" || f == "isinstance" || f == "range" || f == "str"
mutual
def gens : Nat → Expr → List Str
  | 0, _ => []
  | n + 1, e => match e with
    | .Name x _ => [x]
    | .BinOp a _ b _ => gensT n a ++ gensT n b
    | .UnaryOp _ a _ => gensT n a
    | .BoolOp _ es _ => gensTs n es
    | .IfExp c a b _ => gensT n c ++ (gens n a ++ gens n b)
    | .Compare a _ bs _ => gensT n a ++ gensTs n bs
    | .Call (.Name f _) es _ _ => if eatB f then gensTs n es else gensAll n es
    | .Call (.Attribute o _ _) es _ _ => gensT n o ++ gensAll n es
    | .Subscript a i _ => gensT n a ++ gens n i
    | .Tuple es _ _ => gensAll n es
    | .List es _ => gensAll n es
    | .ListComp elt cs _ _ => gensC n cs ++ gens n elt
    | .Attribute a _ _ => gensT n a
    | _ => []
def gensT : Nat → Expr → List Str
  | 0, _ => []
  | n + 1, e => match e with
    | .Name _ _ => []
    | e => gens n e
def gensAll : Nat → List Expr → List Str
  | 0, _ => []
  | _ + 1, [] => []
  | n + 1, e :: es => gens n e ++ gensAll n es
def gensTs : Nat → List Expr → List Str
  | 0, _ => []
  | _ + 1, [] => []
  | n + 1, e :: es => gensT n e ++ gensTs n es
def gensC : Nat → List Comprehension → List Str
  | 0, _ => []
  | _ + 1, [] => []
  | n + 1, ⟨_, it, ifs, _⟩ :: cs => gens n it ++ (gensTs n ifs ++ gensC n cs)
end
def freezeSl : Sl → Sl
  | .own ds => .val (.lst ds)
  | s => s
def fz (ρ : Ev) (i : Nat) : Ev := ρ.set i (freezeSl (getSl ρ i))
def freeze (N : List Str) : List Str → Ev → Ev
  | [], ρ => ρ
  | x :: xs, ρ => freeze N xs (if decide (ixOf N x < N.length) then fz ρ (ixOf N x) else ρ)

/-! ### loops -/
def compL (step : D → Sto → R (Option D)) : List D → List D → Sto → R (List D)
  | [], acc, S => .ok acc S
  | d :: ds, acc, S => (step d S).bind fun o S1 => match o with
    | some y => compL step ds (acc ++ [y]) S1
    | none => compL step ds acc S1
def forL (body : D → Ev → Sto → O) : List D → Ev → Sto → O
  | [], ρ, S => .nx ρ S
  | d :: ds, ρ, S => match body d ρ S with
    | .nx ρ1 S1 => forL body ds ρ1 S1
    | .cnt ρ1 S1 => forL body ds ρ1 S1
    | .brk ρ1 S1 => .nx ρ1 S1
    | o => o
def whileL (c : Ev → Sto → R Bool) (body : Ev → Sto → O) : Nat → Ev → Sto → O
  | 0, _, _ => .bad
  | n + 1, ρ, S => (c ρ S).run ρ fun b S1 => if b then (match body ρ S1 with
    | .nx ρ2 S2 => whileL c body n ρ2 S2
    | .cnt ρ2 S2 => whileL c body n ρ2 S2
    | .brk ρ2 S2 => .nx ρ2 S2
    | o => o) else .nx ρ S1

def lcStep (fc : Ev → Sto → R Bool) (fe : Ev → Sto → R D) (S2 : Sto) : Option Ev → R (Option D)
  | none => .bad
  | some ρ1 => (fc ρ1 S2).noe.bind fun t S3 => if t then (fe ρ1 S3).noe.bind fun y S4 => .ok (some y) S4 else .ok none S3

/-! ### targets -/
mutual
def asgT (N : List Str) (sc : Scope) : Nat → Expr → D → Ev → Option Ev
  | 0, _, _, _ => none
  | n + 1, e, d, ρ => match e with
    | .Name x _ => if locB sc x && decide (ixOf N x < ρ.length) then some (ρ.set (ixOf N x) (.val d)) else none
    | .Tuple es _ _ => (match d with
      | .tup ds => asgTs N sc n es ds ρ
      | _ => none)
    | _ => none
def asgTs (N : List Str) (sc : Scope) : Nat → List Expr → List D → Ev → Option Ev
  | 0, _, _, _ => none
  | n + 1, es, ds, ρ => match es, ds with
    | [], [] => some ρ
    | e :: es, d :: ds => (asgT N sc n e d ρ).bind fun ρ1 => asgTs N sc n es ds ρ1
    | _, _ => none
end
/-- the block's own names, with their places -/
def ownOf (N : List Str) (scope : Scope) : List (Str × Nat) := scope.names.filterMap fun y => match y.2 with
  | .local => if ixOf N y.1 < N.length then some (y.1, ixOf N y.1) else none
  | .cell => if ixOf N y.1 < N.length then some (y.1, ixOf N y.1) else none
  | _ => none
def wipeE (ρ : Ev) : List Nat → Ev
  | [] => ρ
  | v :: vs => (wipeE ρ vs).set v .un
mutual
def tgtIx (N : List Str) : Nat → Expr → List Nat
  | 0, _ => []
  | n + 1, e => match e with
    | .Name x _ => [ixOf N x]
    | .Tuple es _ _ => tgtIxs N n es
    | _ => []
def tgtIxs (N : List Str) : Nat → List Expr → List Nat
  | 0, _ => []
  | _ + 1, [] => []
  | n + 1, e :: es => tgtIx N n e ++ tgtIxs N n es
end
def rangeD (lo hi : Int) : Option (List D) := if -(2 ^ 62) ≤ lo ∧ lo < 2 ^ 62 ∧ -(2 ^ 62) ≤ hi ∧ hi < 2 ^ 62 ∧ (hi - lo).toNat ≤ LINE then some ((List.range (hi - lo).toNat).map fun (k : Nat) => D.int (lo + (k : Int))) else none
/-- the things that a value gives one by one -/
def itemsD : D → Option (List D)
  | .tup ds => some ds
  | .lst ds => some ds
  | _ => none
def zipD : D → D → Option (List D)
  | .tup a, .tup b => some ((a.zip b).map fun p => D.tup [p.1, p.2])
  | _, _ => none

def rangeA1 (ds : List D) (S1 : Sto) : R (List D) := match ds with
  | [.int j] => R.opt (rangeD 0 j) S1
  | _ => .bad
def rangeA2 (ds : List D) (S1 : Sto) : R (List D) := match ds with
  | [.int i, .int j] => R.opt (rangeD i j) S1
  | _ => .bad
def zipA (ds : List D) (S1 : Sto) : R (List D) := match ds with
  | [a, b] => R.opt (zipD a b) S1
  | _ => .bad

/-! ### the evaluator -/
section
variable (g : G) (C : Call) (N : List Str)
mutual
/-- an expression in general position -/
def evE : Nat → Scope → Expr → Ev → Sto → R D
  | 0, _, _, _, _ => .bad
  | n + 1, sc, e, ρ, S => match e with
    | .Constant c _ _ => (match c with
      | .none => .ok .non S
      | .bool b => .ok (.bl b) S
      | .int i => .ok (.int i) S
      | .str x => .ok (.str x) S
      | _ => .bad)
    | .Name x _ =>
      if plainName x then
        if visB sc x then (match getSl ρ (ixOf N x) with
          | .val d => .ok d S
          | _ => .bad)
        else if glB sc x then R.opt (g.con x) S else .bad
      else .bad
    | .BinOp a op b _ => (evT n sc a ρ S).bind fun x S1 => (evT n sc b ρ S1).bind fun y S2 => R.opt (binD op (view S2 x) (view S2 y)) S2
    | .UnaryOp op a _ => (match op with
      | .Not => (evT n sc a ρ S).bind fun x S1 => R.opt ((truD (view S1 x)).map fun b => D.bl (!b)) S1
      | .USub => (evT n sc a ρ S).bind fun x S1 => (match x with
        | .int i => .ok (.int (-i)) S1
        | _ => .bad)
      | _ => .bad)
    | .BoolOp op es _ => (match es with
      | [] => .bad
      | e1 :: es1 => evBool n sc op e1 es1 ρ S)
    | .IfExp c a b _ => (evTest n sc c ρ S).bind fun t S1 => if t then evE n sc a ρ S1 else evE n sc b ρ S1
    | .Compare a ops bs _ => (match ops, bs with
      | [op], [b] => if lastMarks [op] [b] then .bad else (evT n sc a ρ S).bind fun x S1 => (evT n sc b ρ S1).bind fun y S2 => R.opt ((cmpD op (view S2 x) (view S2 y)).map D.bl) S2
      | [op, op2], [b, c] => if lastMarks [op, op2] [b, c] then .bad else (evT n sc a ρ S).bind fun x S1 => (evT n sc b ρ S1).bind fun y S2 => (R.opt (cmpD op (view S2 x) (view S2 y)) S2).bind fun t S3 =>
          if t then (evT n sc c ρ S3).bind fun z S4 => R.opt ((cmpD op2 (view S4 y) (view S4 z)).map D.bl) S4 else .ok (.bl false) S3
      | _, _ => .bad)
    | .Call f es ks _ => (match f, ks with
      | .Name x _, [] =>
        if plainName x && glB sc x then
          if (g.fn x).isSome then (match es with
            | [] => .bad
            | e1 :: es1 => if (e1 :: es1).all notStar then (evA n sc (e1 :: es1) ρ S).bind fun ds S1 => C x ds S1 else .bad)
          else if g.bi x then
            if x = "isinstance" then (match es with
              | [a, .Name T _] => if glB sc T && g.bi T && plainName T && isT T && notStar a then (evT n sc a ρ S).bind fun d S1 => R.opt ((isiD T (view S1 d)).map D.bl) S1 else .bad
              | _ => .bad)
            else if biC x then (match es with
              | [] => .bad
              | e1 :: es1 => if (e1 :: es1).all notStar then (evTs n sc (e1 :: es1) ρ S).bind fun ds S1 => R.opt (callD x (ds.map (view S1))) S1 else .bad)
            else .bad
          else .bad
        else .bad
      | _, _ => .bad)
    | .Subscript a i _ => (match i with
      | .Slice lo hi none _ => (evT n sc a ρ S).bind fun x S1 => (evO n sc lo ρ S1).bind fun l S2 => (evO n sc hi ρ S2).bind fun h S3 => R.opt (sliceD (view S3 x) l h) S3
      | .Slice _ _ (some _) _ => .bad
      | i => (evT n sc a ρ S).bind fun x S1 => (evE n sc i ρ S1).bind fun y S2 => R.opt (itemD (view S2 x) y) S2)
    | .Tuple es _ _ => if !(es.all notStar) then .bad else (evA n sc es ρ S).bind fun ds S1 => if ds.length ≤ LINE then .ok (.tup ds) S1 else .bad
    | .List es _ => if !(es.all notStar) then .bad else (evA n sc es ρ S).bind fun ds S1 => if ds.length ≤ LINE then .ok (.lst ds) S1 else .bad
    | .ListComp elt cs scope _ => (match cs with
      | [⟨tg, it, ifs, 0⟩] =>
        if L2.blkC N sc scope (ownOf N scope) && (tgtIx N n tg).all (fun i => decide (i ∈ (ownOf N scope).map (·.2))) && notSet it then
          (evI n sc tg it ρ S).bind fun ds S1 => if ds.length ≤ LINE then
            (compL (fun d S2 => lcStep (evIfs n (L2.relS scope sc) ifs) (evE n (L2.relS scope sc) elt) S2 (asgT N scope n tg d (wipeE ρ ((ownOf N scope).map (·.2))))) ds [] S1).bind fun ys S5 => .ok (.lst ys) S5 else .bad
        else .bad
      | _ => .bad)
    | _ => .bad
/-- an expression whose value is looked at and dropped -/
def evT : Nat → Scope → Expr → Ev → Sto → R D
  | 0, _, _, _, _ => .bad
  | n + 1, sc, e, ρ, S => match e with
    | .Name x p => if plainName x && visB sc x then (match getSl ρ (ixOf N x) with
          | .val d => .ok d S
          | .own ds => .ok (.lst ds) S
          | _ => .bad) else evE n sc (.Name x p) ρ S
    | e => evE n sc e ρ S
def evA : Nat → Scope → List Expr → Ev → Sto → R (List D)
  | 0, _, _, _, _ => .bad
  | _ + 1, _, [], _, S => .ok [] S
  | n + 1, sc, e :: es, ρ, S => (evE n sc e ρ S).bind fun d S1 => (evA n sc es ρ S1).bind fun ds S2 => .ok (d :: ds) S2
def evTs : Nat → Scope → List Expr → Ev → Sto → R (List D)
  | 0, _, _, _, _ => .bad
  | _ + 1, _, [], _, S => .ok [] S
  | n + 1, sc, e :: es, ρ, S => (evT n sc e ρ S).bind fun d S1 => (evTs n sc es ρ S1).bind fun ds S2 => .ok (d :: ds) S2
/-- an optional part of a slice -/
def evO : Nat → Scope → Option Expr → Ev → Sto → R (Option Int)
  | 0, _, _, _, _ => .bad
  | _ + 1, _, none, _, S => .ok none S
  | n + 1, sc, some e, ρ, S => (evE n sc e ρ S).bind fun d S1 => match d with
    | .int i => .ok (some i) S1
    | _ => .bad
/-- and, or as values -/
def evBool : Nat → Scope → BoolOp → Expr → List Expr → Ev → Sto → R D
  | 0, _, _, _, _, _, _ => .bad
  | n + 1, sc, op, e, es, ρ, S => (match es with
    | [] => evE n sc e ρ S
    | e2 :: es2 => (evE n sc e ρ S).bind fun x S1 => (match x with
      | .bl b => (match op with
        | .And => if b then evBool n sc op e2 es2 ρ S1 else .ok (.bl false) S1
        | .Or => if b then .ok (.bl true) S1 else evBool n sc op e2 es2 ρ S1)
      | _ => .bad))
/-- an expression as a test -/
def evTest : Nat → Scope → Expr → Ev → Sto → R Bool
  | 0, _, _, _, _ => .bad
  | n + 1, sc, e, ρ, S => match e with
    | .UnaryOp op a p => (match op with
      | .Not => (evTest n sc a ρ S).bind fun b S1 => .ok (!b) S1
      | op => (evT n sc (.UnaryOp op a p) ρ S).bind fun d S1 => R.opt (truD (view S1 d)) S1)
    | .BoolOp op es _ => (match es with
      | [] => .bad
      | e1 :: es1 => evTests n sc op e1 es1 ρ S)
    | .IfExp _ _ _ _ => .bad
    | .Compare a ops bs p => (evE n sc (.Compare a ops bs p) ρ S).bind fun d S1 => (match d with
      | .bl b => .ok b S1
      | _ => .bad)
    | e => (evT n sc e ρ S).bind fun d S1 => R.opt (truD (view S1 d)) S1
def evTests : Nat → Scope → BoolOp → Expr → List Expr → Ev → Sto → R Bool
  | 0, _, _, _, _, _, _ => .bad
  | n + 1, sc, op, e, es, ρ, S => (match es with
    | [] => evTest n sc e ρ S
    | e2 :: es2 => (evTest n sc e ρ S).bind fun b S1 => (match op with
      | .And => if b then evTests n sc op e2 es2 ρ S1 else .ok false S1
      | .Or => if b then .ok true S1 else evTests n sc op e2 es2 ρ S1))
/-- a clause's tests -/
def evIfs : Nat → Scope → List Expr → Ev → Sto → R Bool
  | 0, _, _, _, _ => .bad
  | _ + 1, _, [], _, S => .ok true S
  | n + 1, sc, [e], ρ, S => evTest n sc e ρ S
  | _ + 1, _, _, _, _ => .bad
/-- what a for walks -/
def evI : Nat → Scope → Expr → Expr → Ev → Sto → R (List D)
  | 0, _, _, _, _, _ => .bad
  | n + 1, sc, tg, e, ρ, S => match e with
    | .Call f es ks p => (match f, ks with
      | .Name x q, [] =>
        if plainName x && glB sc x && !(g.fn x).isSome && g.bi x then
          if x = "range" then (match es with
            | [a] => if notStar a then (evA n sc [a] ρ S).bind rangeA1 else .bad
            | [a, b] => if notStar a && notStar b then (evA n sc [a, b] ρ S).bind rangeA2 else .bad
            | _ => .bad)
          else if x = "zip" then (match es with
            | [a, b] => if notStar a && notStar b && isTup tg then (evA n sc [a, b] ρ S).bind zipA else .bad
            | _ => .bad)
          else (evE n sc (.Call (.Name x q) es [] p) ρ S).bind fun d S1 => R.opt (itemsD d) S1
        else (evE n sc (.Call (.Name x q) es [] p) ρ S).bind fun d S1 => R.opt (itemsD d) S1
      | _, _ => .bad)
    | e => (evE n sc e ρ S).bind fun d S1 => R.opt (itemsD d) S1
end

/-! ### statements -/
/-- a, b = x, y with two names of the frame: stored from the right -/
def isLocB (sc : Scope) (x : Str) : Bool := match kindB sc x with
  | some .local => true | _ => false
def swapB (sc : Scope) (tg : List Expr) (e : Expr) : Bool := match tg, e with
  | [.Name x p, .Name y q], .Tuple [a, b] _ _ => isLocB sc x && isLocB sc y && q.line == p.line && !(x == y) && notStar a && notStar b && !([a, b].all (foldedForSure 8)) && !([a, b].all (constantsAlone 8))
  | _, _ => false
/-- the usual way: the value, then the stores -/
def swapN (sc : Scope) (tg : List Expr) (e : Expr) : Bool := match e with
  | .Tuple vs _ _ => (match tg with
    | [.Name x _, .Name y _] => (!(isLocB sc x) || !(isLocB sc y) || vs.all (foldedForSure 8))
    | _ => false)
  | _ => true

/-- a op= b -/
def augD (op : Operator) (a b : Lw.D) : Option Lw.D := match op, a, b with
  | .Add, .int i, .int j => some (.int (i + j))
  | .Sub, .int i, .int j => some (.int (i - j))
  | .Add, .str x, .str y => if x.length + y.length ≤ LINE then some (.str (x ++ y)) else none
  | _, _, _ => none
def noComp : Expr → Bool
  | .ListComp _ _ _ _ => false | .SetComp _ _ _ _ => false | .DictComp _ _ _ _ _ => false | _ => true
def storeD (i : Nat) (j : Int) (v : D) (S : Sto) : Option Sto := match S[i]? with
  | some (.lst ds) => (L2.ixN ds.length j).map fun k => S.set i (.lst (ds.set k v))
  | none => none
mutual
def exS (boxy : Bool) : Nat → Scope → Stmt → Ev → Sto → O
  | 0, _, _, _, _ => .bad
  | n + 1, sc, st, ρ0, S => match st with
    | .Assign ts e _ => (match ts with
      | [.Name x _] => let ρ := freeze N (gens n e) ρ0
        if locB sc x && decide (ixOf N x < ρ.length) then (match e with
          | .List es _ => if !(es.all notStar) then .bad else (evA g C N n sc es ρ S).run ρ fun ds S1 => if ds.length ≤ LINE then .nx (ρ.set (ixOf N x) (.own ds)) S1 else .bad
          | e => (evE g C N n sc e ρ S).run ρ fun d S1 => .nx (ρ.set (ixOf N x) (.val d)) S1)
        else .bad
      | [.Tuple tg k p] => let ρ := freeze N (gens n e) ρ0
        if swapB sc tg e then (match tg, e with
        | [.Name x _, .Name y _], .Tuple [a, b] _ _ =>
          if decide (ixOf N x < ρ.length) && decide (ixOf N y < ρ.length) && notStar a && notStar b then
            (evA g C N n sc [a, b] ρ S).run ρ fun ds S1 => (match ds with
              | [d1, d2] => .nx ((ρ.set (ixOf N x) (.val d1)).set (ixOf N y) (.val d2)) S1
              | _ => .bad)
          else .bad
        | _, _ => .bad)
        else if swapN sc tg e then (evE g C N n sc e ρ S).run ρ fun d S1 => (match asgT N sc n (.Tuple tg k p) d ρ with
          | some ρ1 => .nx ρ1 S1
          | none => .bad)
        else .bad
      | [.Subscript o i _] => (match i with
        | .Slice _ _ _ _ => .bad
        | i => let ρ := freeze N (gens n e ++ gens n i) ρ0
          (evE g C N n sc e ρ S).run ρ fun v S1 => (evE g C N n sc o ρ S1).run ρ fun x S2 => (evE g C N n sc i ρ S2).run ρ fun j S3 => (match x, j with
            | .ref a, .int j => (match storeD a j v S3 with
              | some S4 => .nx ρ S4
              | none => .bad)
            | _, _ => .bad))
      | _ => .bad)
    | .AugAssign tg op e _ => (match tg with
      | .Name x _ => let ρ := freeze N (gens n e) ρ0
        if locB sc x && decide (ixOf N x < ρ.length) then (match getSl ρ (ixOf N x) with
          | .val d0 => (evE g C N n sc e ρ S).run ρ fun d S1 => (match augD op d0 d with
            | some d2 => .nx (ρ.set (ixOf N x) (.val d2)) S1
            | none => .bad)
          | _ => .bad)
        else .bad
      | _ => .bad)
    | .Expr e _ => (match e with
      | .Call (.Attribute (.Name x _) m ap) [a] [] cp =>
        if m = "append" then if !(ap.endLine == cp.line) || !(notStar a) then .bad else let ρ := freeze N (gens n a) ρ0
          if locB sc x && plainName x then (match getSl ρ (ixOf N x) with
            | .own ds => (evE g C N n sc a ρ S).run ρ fun d S1 => if ds.length < LINE then .nx (ρ.set (ixOf N x) (.own (ds ++ [d]))) S1 else .bad
            | _ => .bad)
          else .bad
        else .bad
      | e => if !(noComp e) then .bad else let ρ := freeze N (gens n e) ρ0
        (evE g C N n sc e ρ S).run ρ fun _ S1 => .nx ρ S1)
    | .Return v _ => (match v with
      | none => .ret .non S
      | some e => let ρ := freeze N (gens n e) ρ0
        (match boxy, e with
        | true, .List es _ => if !(es.all notStar) then .bad else (evA g C N n sc es ρ S).run ρ fun ds S1 => if ds.length ≤ LINE then .ret (.ref S1.length) (S1 ++ [.lst ds]) else .bad
        | _, e => (evE g C N n sc e ρ S).run ρ fun d S1 => .ret d S1))
    | .If c a b _ => let ρ := freeze N (gens n c) ρ0
      (evTest g C N n sc c ρ S).run ρ fun t S1 => if t then exSs boxy n sc a ρ S1 else exSs boxy n sc b ρ S1
    | .For tg it body els _ => (match els with
      | [] => if !(notSet it) then .bad else let ρ := freeze N (gens n it) ρ0
        (evI g C N n sc tg it ρ S).run ρ fun ds S1 => forL (fun d ρ1 S2 => match asgT N sc n tg d ρ1 with
          | some ρ2 => exSs boxy n sc body ρ2 S2
          | none => .bad) ds ρ S1
      | _ => .bad)
    | .Pass _ => .nx ρ0 S
    | .Break _ => .brk ρ0 S
    | .Continue _ => .cnt ρ0 S
    | .Raise x y _ => (match x, y with
      | some (.Call (.Name c _) [] [] _), none => if g.exc c && glB sc c && plainName c then .err c ρ0 S else .bad
      | _, _ => .bad)
    | _ => .bad
def exSs (boxy : Bool) : Nat → Scope → List Stmt → Ev → Sto → O
  | 0, _, _, _, _ => .bad
  | _ + 1, _, [], ρ, S => .nx ρ S
  | n + 1, sc, st :: sts, ρ, S => (exS boxy n sc st ρ S).seq fun ρ1 S1 => exSs boxy n sc sts ρ1 S1
end
end

/-- the slots at a def's entry -/
def startE (N : List Str) (ds : List D) : Ev := ds.map Sl.val ++ List.replicate (N.length - ds.length) Sl.un
def O.fin : O → R D
  | .nx _ S => .ok .non S
  | .ret d S => .ok d S
  | .err c _ S => .err c S
  | _ => .bad
/-- a def's body, run -/
def runFd (g : G) (C : Call) (fd : Fd) (ds : List D) (S : Sto) : R D :=
  if ds.length = fd.ps.length then (exSs g C fd.N fd.boxy 60 fd.sc fd.body (startE fd.N ds) S).fin else .bad
/-- a call, so many calls deep at the most -/
def callN (g : G) : Nat → Call
  | 0, _, _, _ => .bad
  | k + 1, f, ds, S => match g.fn f with
    | some fd => runFd g (callN g k) fd ds S
    | none => .bad
end Lw
set_option maxHeartbeats 1000000
/-! LwB: how data lie in the heap. -/
namespace Lw
open PySem PySem.Spec PyProof.Rows L2

/-- the addresses of lists that nobody changes any more; the store's things by number -/
structure Wd where
  Fz : Addr → Prop
  n : Nat
  μ : Nat → Addr
mutual
inductive Rep (K : PySem.W.Frag) (W : Wd) (H : Hp) : D → V → Prop
  | non : Rep K W H .non .non
  | bl (b : Bool) : Rep K W H (.bl b) (.bl b)
  | int (i : Int) : Rep K W H (.int i) (.int i)
  | str (x : Str) : Rep K W H (.str x) (.str x)
  | tup {a : Addr} {vs : List V} {ds : List D} : SqT K H a vs → Reps K W H ds vs → Rep K W H (.tup ds) (.ref a)
  | lst {a : Addr} {vs : List V} {ds : List D} : W.Fz a → Rd H a (.lst vs) → Reps K W H ds vs → Rep K W H (.lst ds) (.ref a)
  | ref {i : Nat} : i < W.n → Rep K W H (.ref i) (.ref (W.μ i))
inductive Reps (K : PySem.W.Frag) (W : Wd) (H : Hp) : List D → List V → Prop
  | nil : Reps K W H [] []
  | cons {d : D} {ds : List D} {v : V} {vs : List V} : Rep K W H d v → Reps K W H ds vs → Reps K W H (d :: ds) (v :: vs)
end
section
variable {K : PySem.W.Frag} {W W' W1 W2 : Wd} {H H' H1 H2 : Hp} {S S' S1 : Sto} {d : D} {ds es : List D} {v : V} {vs us : List V}
theorem Reps.length : ∀ {ds : List D} {vs : List V}, Reps K W H ds vs → ds.length = vs.length
  | _, _, .nil => rfl
  | _, _, .cons _ t => by rw [List.length_cons, List.length_cons, Reps.length t]
theorem Reps.get : ∀ {ds : List D} {vs : List V} {i : Nat} {d : D}, Reps K W H ds vs → ds[i]? = some d → ∃ v, vs[i]? = some v ∧ Rep K W H d v
  | _, _, _, _, .nil, e => by simp at e
  | _, _, 0, _, .cons r _, e => by simp at e; subst e; exact ⟨_, rfl, r⟩
  | _, _, i + 1, d, .cons _ t, e => by
    obtain ⟨v, h1, h2⟩ := Reps.get (i := i) (d := d) t (by simpa using e)
    exact ⟨v, by simpa using h1, h2⟩
theorem Reps.getV : ∀ {ds : List D} {vs : List V} {i : Nat} {v : V}, Reps K W H ds vs → vs[i]? = some v → ∃ d, ds[i]? = some d ∧ Rep K W H d v
  | _, _, _, _, .nil, e => by simp at e
  | _, _, 0, _, .cons r _, e => by simp at e; subst e; exact ⟨_, rfl, r⟩
  | _, _, i + 1, v, .cons _ t, e => by
    obtain ⟨d, h1, h2⟩ := Reps.getV (i := i) (v := v) t (by simpa using e)
    exact ⟨d, by simpa using h1, h2⟩
theorem Reps.append : ∀ {ds es : List D} {vs us : List V}, Reps K W H ds vs → Reps K W H es us → Reps K W H (ds ++ es) (vs ++ us)
  | _, _, _, _, .nil, s => s
  | _, _, _, _, .cons r t, s => .cons r (Reps.append t s)
theorem Reps.take : ∀ {ds : List D} {vs : List V} (n : Nat), Reps K W H ds vs → Reps K W H (ds.take n) (vs.take n)
  | _, _, 0, _ => .nil
  | _, _, _ + 1, .nil => .nil
  | _, _, n + 1, .cons r t => .cons r (Reps.take n t)
theorem Reps.drop : ∀ {ds : List D} {vs : List V} (n : Nat), Reps K W H ds vs → Reps K W H (ds.drop n) (vs.drop n)
  | _, _, 0, r => r
  | _, _, _ + 1, .nil => .nil
  | _, _, n + 1, .cons _ t => Reps.drop n t
theorem Reps.set : ∀ {ds : List D} {vs : List V} {d : D} {v : V} (i : Nat), Rep K W H d v → Reps K W H ds vs → Reps K W H (ds.set i d) (vs.set i v)
  | _, _, _, _, _, _, .nil => .nil
  | _, _, _, _, 0, r, .cons _ t => .cons r t
  | _, _, _, _, i + 1, r, .cons q t => .cons q (Reps.set i r t)
theorem Reps.one (r : Rep K W H d v) : Reps K W H [d] [v] := .cons r .nil

/-- what may be read stays so -/
structure Pre (K : PySem.W.Frag) (W : Wd) (H : Hp) (W' : Wd) (H' : Hp) : Prop where
  tup : ∀ a xs, SqT K H a xs → SqT K H' a xs
  fz : ∀ a, W.Fz a → W'.Fz a
  frz : ∀ a xs, W.Fz a → Rd H a (.lst xs) → Rd H' a (.lst xs)
  n : W.n ≤ W'.n
  mu : ∀ i, i < W.n → W'.μ i = W.μ i
theorem Pre.refl : Pre K W H W H := ⟨fun _ _ h => h, fun _ h => h, fun _ _ _ h => h, Nat.le_refl _, fun _ _ => rfl⟩
theorem Pre.trans (a : Pre K W H W1 H1) (b : Pre K W1 H1 W2 H2) : Pre K W H W2 H2 :=
  ⟨fun c xs h => b.tup c xs (a.tup c xs h), fun c h => b.fz c (a.fz c h), fun c xs f h => b.frz c xs (a.fz c f) (a.frz c xs f h), Nat.le_trans a.n b.n,
    fun i h => (b.mu i (Nat.lt_of_lt_of_le h a.n)).trans (a.mu i h)⟩
mutual
theorem Rep.pre (p : Pre K W H W' H') : ∀ {d : D} {v : V}, Rep K W H d v → Rep K W' H' d v
  | _, _, .non => .non
  | _, _, .bl b => .bl b
  | _, _, .int i => .int i
  | _, _, .str x => .str x
  | _, _, .tup h r => .tup (p.tup _ _ h) (Reps.pre p r)
  | _, _, .lst f h r => .lst (p.fz _ f) (p.frz _ _ f h) (Reps.pre p r)
  | _, _, .ref (i := i) h => by
    have e := p.mu i h
    rw [← e]
    exact .ref (Nat.lt_of_lt_of_le h p.n)
theorem Reps.pre (p : Pre K W H W' H') : ∀ {ds : List D} {vs : List V}, Reps K W H ds vs → Reps K W' H' ds vs
  | _, _, .nil => .nil
  | _, _, .cons r t => .cons (Rep.pre p r) (Reps.pre p t)
end

def MOk (K : PySem.W.Frag) (W : Wd) (H : Hp) (a : Addr) : MO → Prop
  | .lst ds => ∃ vs, H a = some (.lst vs) ∧ Reps K W H ds vs
theorem MOk.some {a : Addr} {o : MO} (h : MOk K W H a o) : H a ≠ none := by
  cases o with
  | lst ds => obtain ⟨vs, e, _⟩ := h; rw [e]; exact fun z => by cases z
/-- the store lies in the heap -/
structure WS (K : PySem.W.Frag) (W : Wd) (H : Hp) (S : Sto) : Prop where
  len : S.length = W.n
  ob : ∀ i o, S[i]? = some o → MOk K W H (W.μ i) o
  inj : ∀ i j, i < W.n → j < W.n → W.μ i = W.μ j → i = j
  nfz : ∀ i, i < W.n → ¬ W.Fz (W.μ i)
  fz : ∀ a, W.Fz a → H a ≠ none
  wf : ∀ a xs, Rd H a (.lst xs) → xs.length ≤ sizeLine
  wft : ∀ a xs, SqT K H a xs → xs.length ≤ sizeLine
theorem WS.there (w : WS K W H S) {i : Nat} (h : i < W.n) : ∃ o, S[i]? = some o ∧ MOk K W H (W.μ i) o := by
  have h' : i < S.length := by rw [w.len]; exact h
  exact ⟨S[i], List.getElem?_eq_getElem h', w.ob i _ (List.getElem?_eq_getElem h')⟩
theorem WS.some (w : WS K W H S) {i : Nat} (h : i < W.n) : H (W.μ i) ≠ none := by
  obtain ⟨o, _, m⟩ := w.there h
  exact m.some
theorem WS.lstAt (w : WS K W H S) {i : Nat} (h : i < W.n) : ∃ vs, H (W.μ i) = Option.some (.lst vs) := by
  obtain ⟨o, _, m⟩ := w.there h
  cases o with
  | lst ds => obtain ⟨vs, e, _⟩ := m; exact ⟨vs, e⟩

/-- an expression's way: all stands as it stood, but the store's things -/
structure Le (W : Wd) (H : Hp) (W' : Wd) (H' : Hp) : Prop where
  keep : ∀ b o, H b = some o → (∀ i, i < W.n → W.μ i ≠ b) → H' b = some o
  sto : ∀ i, i < W.n → H' (W.μ i) ≠ none
  n : W.n ≤ W'.n
  mu : ∀ i, i < W.n → W'.μ i = W.μ i
  fz : ∀ a, W.Fz a → W'.Fz a
  fz' : ∀ a, W'.Fz a → W.Fz a ∨ H a = none
  new : ∀ i, W.n ≤ i → i < W'.n → H (W'.μ i) = none
theorem WS.refl (w : WS K W H S) : Le W H W H :=
  ⟨fun _ _ e _ => e, fun _ h => w.some h, Nat.le_refl _, fun _ _ => rfl, fun _ h => h, fun _ h => .inl h, fun i h1 h2 => absurd (Nat.lt_of_le_of_lt h1 h2) (Nat.lt_irrefl _)⟩
theorem Le.gone (a : Le W H W1 H1) {b : Addr} (e : H1 b = none) : H b = none := by
  cases q : H b with
  | none => rfl
  | some o =>
    by_cases hb : ∀ i, i < W.n → W.μ i ≠ b
    · rw [a.keep b o q hb] at e; cases e
    · exfalso
      apply hb
      intro i hi z
      exact a.sto i hi (by rw [z]; exact e)
theorem Le.trans (a : Le W H W1 H1) (b : Le W1 H1 W2 H2) : Le W H W2 H2 where
  keep := fun c o e h => b.keep c o (a.keep c o e h) fun i hi z => by
    by_cases hl : i < W.n
    · exact h i hl (by rw [← a.mu i hl]; exact z)
    · have q := a.new i (Nat.le_of_not_lt hl) hi
      rw [z, e] at q; cases q
  sto := fun i hi => by rw [← a.mu i hi]; exact b.sto i (Nat.lt_of_lt_of_le hi a.n)
  n := Nat.le_trans a.n b.n
  mu := fun i hi => (b.mu i (Nat.lt_of_lt_of_le hi a.n)).trans (a.mu i hi)
  fz := fun c h => b.fz c (a.fz c h)
  fz' := fun c h => by
    rcases b.fz' c h with q | q
    · exact a.fz' c q
    · exact .inr (a.gone q)
  new := fun i h1 h2 => by
    by_cases hl : i < W1.n
    · rw [b.mu i hl]; exact a.new i h1 hl
    · exact a.gone (b.new i (Nat.le_of_not_lt hl) h2)
theorem Le.pre (w : WS K W H S) (a : Le W H W' H') : Pre K W H W' H' where
  tup := fun c xs h => by
    have ne : ∀ o, H c = some o → (∀ vs, o ≠ .lst vs) → H' c = some o := fun o e h => a.keep c o e fun i hi z => by
      obtain ⟨vs, q⟩ := w.lstAt hi
      rw [z, e] at q
      exact h vs (Option.some.inj q)
    rcases h with (h | ⟨o, h⟩) | h
    · exact .inl (.inl (ne _ h fun _ z => by cases z))
    · exact .inl (.inr ⟨o, ne _ h fun _ z => by cases z⟩)
    · exact .inr h
  fz := a.fz
  frz := fun c xs f h => by
    have ns : ∀ i, i < W.n → W.μ i ≠ c := fun i hi z => w.nfz i hi (by rw [z]; exact f)
    rcases h with h | ⟨o, h⟩
    · exact .inl (a.keep c _ h ns)
    · exact .inr ⟨o, a.keep c _ h ns⟩
  n := a.n
  mu := a.mu

/-- a value that is looked at and dropped: it may be a list of the frame's own -/
def RepT (K : PySem.W.Frag) (W : Wd) (H : Hp) (d : D) (v : V) : Prop := Rep K W H d v ∨ ∃ ds a vs, d = .lst ds ∧ v = .ref a ∧ H a = some (.lst vs) ∧ Reps K W H ds vs ∧ ∀ i, i < W.n → W.μ i ≠ a
theorem RepT.le (w : WS K W H S) (l : Le W H W' H') (r : RepT K W H d v) : RepT K W' H' d v := by
  rcases r with r | ⟨ds, a, vs, rfl, rfl, e, r, h⟩
  · exact .inl (r.pre (l.pre w))
  · refine .inr ⟨ds, a, vs, rfl, rfl, l.keep a _ e h, r.pre (l.pre w), fun i hi z => ?_⟩
    by_cases hl : i < W.n
    · exact h i hl (by rw [← l.mu i hl]; exact z)
    · have q := l.new i (Nat.le_of_not_lt hl) hi
      rw [z, e] at q; cases q
inductive RepTs (K : PySem.W.Frag) (W : Wd) (H : Hp) : List D → List V → Prop
  | nil : RepTs K W H [] []
  | cons {d : D} {ds : List D} {v : V} {vs : List V} : RepT K W H d v → RepTs K W H ds vs → RepTs K W H (d :: ds) (v :: vs)
theorem RepTs.le (w : WS K W H S) (l : Le W H W' H') : ∀ {ds : List D} {vs : List V}, RepTs K W H ds vs → RepTs K W' H' ds vs
  | _, _, .nil => .nil
  | _, _, .cons r t => .cons (r.le w l) (RepTs.le w l t)
/-- a value seen: a list's items are at hand -/
inductive See (K : PySem.W.Frag) (W : Wd) (H : Hp) : D → V → Prop
  | non : See K W H .non .non
  | bl (b : Bool) : See K W H (.bl b) (.bl b)
  | int (i : Int) : See K W H (.int i) (.int i)
  | str (x : Str) : See K W H (.str x) (.str x)
  | tup {a : Addr} {vs : List V} {ds : List D} : SqT K H a vs → Reps K W H ds vs → See K W H (.tup ds) (.ref a)
  | lst {a : Addr} {vs : List V} {ds : List D} : Rd H a (.lst vs) → Reps K W H ds vs → See K W H (.lst ds) (.ref a)
theorem RepT.see (w : WS K W H S) (r : RepT K W H d v) : See K W H (view S d) v := by
  rcases r with r | ⟨ds, a, vs, rfl, rfl, e, r, h⟩
  · cases r with
    | non => exact .non
    | bl b => exact .bl b
    | int i => exact .int i
    | str x => exact .str x
    | tup h r => exact .tup h r
    | lst f h r => exact .lst h r
    | @ref i h =>
      obtain ⟨o, e, m⟩ := w.there h
      cases o with
      | lst ds =>
        obtain ⟨vs, e2, r⟩ := m
        rw [show view S (.ref i) = .lst ds by simp only [view, e]]
        exact .lst (.inl e2) r
  · exact .lst (.inl e) r

/-! ### new things -/
def Wd.add (W : Wd) (p : Addr) : Wd := { W with Fz := fun a => W.Fz a ∨ a = p }
theorem rd_upd {p a : Addr} {o u : HO} (hp : H p = none) (h : Rd (upd H p o) a u) (ne : ∀ ob, o ≠ .frz ob u) : Rd H a u ∨ (a = p ∧ u = o) := by
  by_cases e : a = p
  · subst e
    rcases h with h | ⟨ob, h⟩
    · rw [upd_same] at h; exact .inr ⟨rfl, (Option.some.inj h).symm⟩
    · rw [upd_same] at h; exact absurd (Option.some.inj h) (ne ob)
  · rcases h with h | ⟨ob, h⟩
    · rw [upd_ne e] at h; exact .inl (.inl h)
    · rw [upd_ne e] at h; exact .inl (.inr ⟨ob, h⟩)
theorem rd_keep {p a : Addr} {o u : HO} (hp : H p = none) (h : Rd H a u) : Rd (upd H p o) a u := by
  rcases h with h | ⟨ob, h⟩
  · exact .inl (by rw [upd_ne (ne_of_none h hp)]; exact h)
  · exact .inr ⟨ob, by rw [upd_ne (ne_of_none h hp)]; exact h⟩
theorem le_new (w : WS K W H S) {p : Addr} (hp : H p = none) (o : HO) (W' : Wd) (hn : W'.n = W.n) (hm : W'.μ = W.μ) (hf : ∀ a, W.Fz a → W'.Fz a) (hf' : ∀ a, W'.Fz a → W.Fz a ∨ a = p) : Le W H W' (upd H p o) where
  keep := fun b u e _ => by rw [upd_ne (ne_of_none e hp)]; exact e
  sto := fun i hi => by
    have q := w.some hi
    have ne : W.μ i ≠ p := fun z => q (by rw [z]; exact hp)
    rw [upd_ne ne]; exact q
  n := by rw [hn]; exact Nat.le_refl _
  mu := fun i _ => by rw [hm]
  fz := hf
  fz' := fun a h => by
    rcases hf' a h with q | q
    · exact .inl q
    · rw [q]; exact .inr hp
  new := fun i h1 h2 => by rw [hn] at h2; exact absurd (Nat.lt_of_le_of_lt h1 h2) (Nat.lt_irrefl _)
theorem MOk.pre {a : Addr} {o : MO} (p : Pre K W H W' H') (e : H' a = H a) (m : MOk K W H a o) : MOk K W' H' a o := by
  cases o with
  | lst ds => obtain ⟨vs, h, r⟩ := m; exact ⟨vs, e.trans h, r.pre p⟩
theorem ws_new (w : WS K W H S) {p : Addr} (hp : H p = none) (o : HO) (W' : Wd) (hn : W'.n = W.n) (hm : W'.μ = W.μ) (hf : ∀ a, W.Fz a → W'.Fz a) (hf' : ∀ a, W'.Fz a → W.Fz a ∨ a = p)
    (hl : ∀ xs, o = .lst xs → xs.length ≤ sizeLine) (ht : ∀ xs, o = .tup xs → xs.length ≤ sizeLine) (hz : ∀ ob u, o ≠ .frz ob u) : WS K W' (upd H p o) S := by
  have L := le_new w hp o W' hn hm hf hf'
  have P := L.pre w
  refine ⟨by rw [hn]; exact w.len, fun i m e => ?_, fun i j h1 h2 z => ?_, fun i hi f => ?_, fun a f => ?_, fun a xs h => ?_, fun a xs h => ?_⟩
  · have m1 := w.ob i m e
    rw [hm]
    refine m1.pre P ?_
    rw [upd_ne fun z => m1.some (by rw [z]; exact hp)]
  · rw [hn] at h1 h2; rw [hm] at z; exact w.inj i j h1 h2 z
  · rw [hn] at hi; rw [hm] at f
    rcases hf' _ f with q | q
    · exact w.nfz i hi q
    · exact w.some hi (by rw [q]; exact hp)
  · rcases hf' a f with q | q
    · have z := w.fz a q
      rw [upd_ne fun e => z (by rw [e]; exact hp)]; exact z
    · rw [q, upd_same]; exact fun z => by cases z
  · rcases rd_upd hp h (fun ob => hz ob _) with q | ⟨_, q⟩
    · exact w.wf a xs q
    · exact hl xs q.symm
  · rcases h with h | h
    · rcases rd_upd hp h (fun ob => hz ob _) with q | ⟨_, q⟩
      · exact w.wft a xs (.inl q)
      · exact ht xs q.symm
    · exact w.wft a xs (.inr h)

/-- what is wanted of a value that an operation gives -/
def Fin (K : PySem.W.Frag) (W : Wd) (H : Hp) (S : Sto) (d : D) (Q : VK) : Prop := ∀ W' H', Le W H W' H' → WS K W' H' S → ∀ v, Rep K W' H' d v → Q v H'
theorem Fin.same {Q : VK} (w : WS K W H S) (f : Fin K W H S d Q) (r : Rep K W H d v) : Q v H := f W H w.refl w v r
theorem Fin.tup {Q : VK} {p : Addr} (w : WS K W H S) (f : Fin K W H S (.tup ds) Q) (r : Reps K W H ds vs) (hl : vs.length ≤ sizeLine) (hp : H p = none) : Q (.ref p) (upd H p (.tup vs)) := by
  have L := le_new (K := K) w hp (.tup vs) W rfl rfl (fun _ h => h) (fun _ h => .inl h)
  refine f W _ L (ws_new w hp (.tup vs) W rfl rfl (fun _ h => h) (fun _ h => .inl h) (fun xs e => by cases e) (fun xs e => by cases e; exact hl) (fun _ _ e => by cases e)) _ ?_
  exact .tup (SqT.of upd_same) (r.pre (L.pre w))
theorem Fin.lst {Q : VK} {p : Addr} (w : WS K W H S) (f : Fin K W H S (.lst ds) Q) (r : Reps K W H ds vs) (hl : vs.length ≤ sizeLine) (hp : H p = none) : Q (.ref p) (upd H p (.lst vs)) := by
  have L := le_new (K := K) w hp (.lst vs) (W.add p) rfl rfl (fun _ h => .inl h) (fun _ h => h)
  refine f (W.add p) _ L (ws_new w hp (.lst vs) (W.add p) rfl rfl (fun _ h => .inl h) (fun _ h => h) (fun xs e => by cases e; exact hl) (fun xs e => by cases e) (fun _ _ e => by cases e)) _ ?_
  exact .lst (.inr rfl) (.inl upd_same) (r.pre (L.pre w))
theorem Fin.le {Q : VK} (l : Le W H W1 H1) (f : Fin K W H S d Q) : Fin K W1 H1 S d Q := fun W' H' l' w => f W' H' (l.trans l') w

/-! ### a frame -/
structure Ent where
  W : Wd
  H : Hp
def OwnOk (K : PySem.W.Frag) (E : Ent) (W : Wd) (H : Hp) (a : Addr) (ds : List D) : Prop := ∃ vs, H a = some (.lst vs) ∧ Reps K W H ds vs ∧ ¬ W.Fz a ∧ (∀ j, j < W.n → W.μ j ≠ a) ∧ E.H a = none
structure Rel (K : PySem.W.Frag) (E : Ent) (W : Wd) (H : Hp) (ρ : Ev) (σ : L2.St) (S : Sto) : Prop where
  ws : WS K W H S
  le : Le E.W E.H W H
  len : ρ.length = σ.length
  val : ∀ i d, getSl ρ i = .val d → ∃ v, σ[i]? = some (some v) ∧ Rep K W H d v
  own : ∀ i ds, getSl ρ i = .own ds → ∃ a, σ[i]? = some (some (.ref a)) ∧ OwnOk K E W H a ds
  apart : ∀ i j ds es a, getSl ρ i = .own ds → getSl ρ j = .own es → σ[i]? = some (some (.ref a)) → σ[j]? = some (some (.ref a)) → i = j
variable {E : Ent} {ρ ρ' : Ev} {σ σ' : L2.St}
theorem Rel.step (r : Rel K E W H ρ σ S) (l : Le W H W' H') (w : WS K W' H' S') : Rel K E W' H' ρ σ S' where
  ws := w
  le := r.le.trans l
  len := r.len
  val := fun i d e => by
    obtain ⟨v, h, q⟩ := r.val i d e
    exact ⟨v, h, q.pre (l.pre r.ws)⟩
  own := fun i ds e => by
    obtain ⟨a, h, vs, h1, h2, h3, h4, h5⟩ := r.own i ds e
    refine ⟨a, h, vs, l.keep a _ h1 h4, h2.pre (l.pre r.ws), fun f => ?_, fun j hj z => ?_, h5⟩
    · rcases l.fz' a f with q | q
      · exact h3 q
      · rw [h1] at q; cases q
    · by_cases hl : j < W.n
      · exact h4 j hl (by rw [← l.mu j hl]; exact z)
      · have q := l.new j (Nat.le_of_not_lt hl) hj
        rw [z, h1] at q; cases q
  apart := r.apart
/-- what is wanted of a reckoning -/
def Res {α : Type} (K : PySem.W.Frag) (E : Ent) (X : Str → L2.St → Hp → Prop) (W : Wd) (H : Hp) (ρ : Ev) (σ : L2.St) (r : R α) (P : α → Sto → Wd → Hp → Prop) : Prop := match r with
  | .ok a S' => ∀ W' H', Le W H W' H' → WS K W' H' S' → P a S' W' H'
  | .err c S' => ∀ W' H', Le W H W' H' → WS K W' H' S' → X c σ H'
  | .bad => False
theorem Res.le {α : Type} {X : Str → L2.St → Hp → Prop} {r : R α} {P : α → Sto → Wd → Hp → Prop} (l : Le W H W1 H1) (h : Res K E X W H ρ σ r P) : Res K E X W1 H1 ρ σ r P := by
  cases r with
  | ok a S' => exact fun W' H' l' w => h W' H' (l.trans l') w
  | err c S' => exact fun W' H' l' w => h W' H' (l.trans l') w
  | bad => exact h
theorem Res.bind {α β : Type} {X : Str → L2.St → Hp → Prop} {r : R α} {f : α → Sto → R β} {P : β → Sto → Wd → Hp → Prop} (h : Res K E X W H ρ σ (r.bind f) P) : Res K E X W H ρ σ r fun a S1 W1 H1 => Res K E X W1 H1 ρ σ (f a S1) P := by
  cases r with
  | ok a S' => exact fun W' H' l w => Res.le (ρ := ρ) l (show Res K E X W H ρ σ (f a S') P from h)
  | err c S' => exact h
  | bad => exact h
theorem Res.mono {α : Type} {X : Str → L2.St → Hp → Prop} {r : R α} {P P' : α → Sto → Wd → Hp → Prop} (h : Res K E X W H ρ σ r P) (f : ∀ a S' W' H', Le W H W' H' → WS K W' H' S' → P a S' W' H' → P' a S' W' H') : Res K E X W H ρ σ r P' := by
  cases r with
  | ok a S' => exact fun W' H' l w => f _ _ _ _ l w (h W' H' l w)
  | err c S' => exact h
  | bad => exact h
theorem Res.opt {α : Type} {X : Str → L2.St → Hp → Prop} {o : Option α} {P : α → Sto → Wd → Hp → Prop} (h : Res K E X W H ρ σ (R.opt o S) P) : ∃ a, o = some a ∧ Res K E X W H ρ σ (.ok a S) P := by
  cases o with
  | none => exact False.elim h
  | some a => exact ⟨a, rfl, h⟩

/-! ### readings -/
variable (K E) (X : Str → L2.St → Hp → Prop)
def tE (f : Ev → Sto → R D) : TE := fun σ H Q => ∃ W ρ S, Rel K E W H ρ σ S ∧ Res K E X W H ρ σ (f ρ S) fun d _ W' H' => ∀ v, Rep K W' H' d v → Q v H'
def tT (f : Ev → Sto → R D) : TE := fun σ H Q => ∃ W ρ S, Rel K E W H ρ σ S ∧ Res K E X W H ρ σ (f ρ S) fun d _ W' H' => ∀ v, RepT K W' H' d v → Q v H'
def tA (f : Ev → Sto → R (List D)) : TA := fun σ H Q => ∃ W ρ S, Rel K E W H ρ σ S ∧ Res K E X W H ρ σ (f ρ S) fun ds _ W' H' => ∀ vs, Reps K W' H' ds vs → Q vs H'
def tTs (f : Ev → Sto → R (List D)) : TA := fun σ H Q => ∃ W ρ S, Rel K E W H ρ σ S ∧ Res K E X W H ρ σ (f ρ S) fun ds _ W' H' => ∀ vs, RepTs K W' H' ds vs → Q vs H'
def tBl (f : Ev → Sto → R Bool) : TT := fun σ H Q => ∃ W ρ S, Rel K E W H ρ σ S ∧ Res K E X W H ρ σ (f ρ S) fun b _ W' H' => Q b H'
/-- what is walked -/
def Walk (W : Wd) (H : Hp) (ds : List D) (J : It) : Prop := ∀ W1 H1 S1, Pre K W H W1 H1 → WS K W1 H1 S1 →
  (∀ i d, ds[i]? = some d → J.go i H1 ∧ ∀ x H2, J.yld i H1 x H2 → ∃ W2, Le W1 H1 W2 H2 ∧ WS K W2 H2 S1 ∧ Rep K W2 H2 d x) ∧ J.stop ds.length H1
def tI (f : Ev → Sto → R (List D)) : TI := fun σ H Q => ∃ W ρ S, Rel K E W H ρ σ S ∧ Res K E X W H ρ σ (f ρ S) fun ds _ W' H' => ∀ J, Walk K W' H' ds J → Q J H'
end
theorem _root_.L2.PE.wk {X : Cx} {e : Expr} {t t' : TE} (h : PE X e t) (w : ∀ σ H Q, t' σ H Q → t σ H Q) : PE X e t' := ⟨fun pins s σ H Q I q => h.run pins s σ H Q I (w σ H Q q)⟩
theorem _root_.L2.PT.wk {X : Cx} {e : Expr} {t t' : TT} (h : PT X e t) (w : ∀ σ H Q, t' σ H Q → t σ H Q) : PT X e t' := ⟨fun pins s σ H Q I q => h.run pins s σ H Q I (w σ H Q q)⟩
theorem _root_.L2.PW.wk {X : Cx} {e : Expr} {t t' : TT} (h : PW X e t) (w : ∀ σ H Q, t' σ H Q → t σ H Q) : PW X e t' := ⟨fun wh pins s σ H Q I q => h.run wh pins s σ H Q I (w σ H Q q)⟩
theorem _root_.L2.PA.wk {X : Cx} {e : List Expr} {t t' : TA} (h : PA X e t) (w : ∀ σ H Q, t' σ H Q → t σ H Q) : PA X e t' := ⟨fun pos pins s σ H Q I q => h.run pos pins s σ H Q I (w σ H Q q)⟩
theorem _root_.L2.PS.wk {X : Cx} {e : Stmt} {t t' : TS} (h : PS X e t) (w : ∀ D σ H, t' D σ H → t D σ H) : PS X e t' := ⟨fun pins s σ H D I q => h.run pins s σ H D I (w D σ H q)⟩
theorem _root_.L2.PSs.wk {X : Cx} {e : List Stmt} {t t' : TS} (h : PSs X e t) (w : ∀ D σ H, t' D σ H → t D σ H) : PSs X e t' := ⟨fun pins s σ H D I q => h.run pins s σ H D I (w D σ H q)⟩
theorem _root_.L2.PI.wk {X : Cx} {tg e : Expr} {t t' : TI} (h : PI X tg e t) (w : ∀ σ H Q, t' σ H Q → t σ H Q) : PI X tg e t' := ⟨fun pins s σ H R I q => h.run pins s σ H R I (w σ H R q)⟩
end Lw
set_option maxHeartbeats 1000000
/-! LwC: the operations, by data. -/
namespace Lw
open PySem PySem.Spec PyProof.Rows L2
section
variable {X : Cx} {W : Wd} {H : Hp} {S : Sto} {K : PySem.W.Frag}
theorem size_line : sizeLine = LINE := sizeLine_eq
theorem See.len {ds : List D} {v : V} (w : WS K W H S) (h : See K W H (.tup ds) v) : ∃ a vs, v = .ref a ∧ SqT K H a vs ∧ Reps K W H ds vs ∧ ds.length = vs.length ∧ vs.length ≤ sizeLine := by
  cases h with
  | tup h r => exact ⟨_, _, rfl, h, r, r.length, w.wft _ _ h⟩
theorem See.lenL {ds : List D} {v : V} (w : WS K W H S) (h : See K W H (.lst ds) v) : ∃ a vs, v = .ref a ∧ Rd H a (.lst vs) ∧ Reps K W H ds vs ∧ ds.length = vs.length ∧ vs.length ≤ sizeLine := by
  cases h with
  | lst h r => exact ⟨_, _, rfl, h, r, r.length, w.wf _ _ h⟩
theorem lstR {pins : List (Addr × Obj)} {s : Shared} {σ : L2.St} {l : Addr} {xs : List V} (I : Inv X pins σ H s) (hH : Rd H l (.lst xs)) : ∃ (its : List Value) (n : Nat), Vals xs its ∧ xs.length = its.length ∧ s.heap.get? l = some { cls := .type "list", data := .seq its.toArray n } := by
  obtain ⟨z, its, n, r, e⟩ := hH.ok I.hok
  exact ⟨its, n, r, r.length, e⟩
/-- list + list, of any that are read -/
def rCatR : R2 := fun x y H Q => ∃ l b xs zs, x = .ref l ∧ y = .ref b ∧ Rd H l (.lst xs) ∧ Rd H b (.lst zs) ∧ xs.length + zs.length ≤ sizeLine ∧ ∀ p, H p = none → Q (.ref p) (upd H p (.lst (xs ++ zs)))
theorem op_catR : OpR X (binaryOp .Add) rCatR := by
  intro pins s σ H x y v u Q I rx ry h
  obtain ⟨l, b, xs, zs, rfl, rfl, hH, hB, hz, q⟩ := h
  cases rx
  cases ry
  obtain ⟨its, n, r, hl, e⟩ := lstR I hH
  obtain ⟨its2, n2, r2, hl2, e2⟩ := lstR I hB
  refine PySem.P.add_list e e2 ?_ (by rw [List.size_toArray, List.size_toArray]; omega)
  have ea : its.toArray ++ its2.toArray = (its ++ its2).toArray := by simp
  rw [ea]
  exact ⟨.ref _, _, I.lnew (t' := s.toks) (r.append r2) (by rw [List.length_append]; omega), rfl, q _ I.fresh⟩

def rBin (K : PySem.W.Frag) (op : Operator) : R2 := fun x y H Q => ∃ W S a b d, WS K W H S ∧ See K W H a x ∧ See K W H b y ∧ binD op a b = some d ∧ Fin K W H S d Q
theorem inR_ok {i : Int} (h : inR64 i = true) : -(2 ^ 64) < i ∧ i < 2 ^ 64 := of_decide_eq_true h
theorem op_bin (op : Operator) : OpR X (binaryOp op) (rBin X.K op) := by
  intro pins s σ H x y v u Q I rx ry h
  obtain ⟨W, S, a, b, d, w, ra, rb, e, f⟩ := h
  unfold binD at e
  split at e
  · cases ra; cases rb; cases e
    exact op_add pins s σ H _ _ v u Q I rx ry ⟨_, _, rfl, rfl, f.same w (.int _)⟩
  · cases ra; cases rb
    split at e
    · rename_i hz
      cases e
      exact op_add_str pins s σ H _ _ v u Q I rx ry ⟨_, _, rfl, rfl, by rw [size_line]; exact hz, f.same w (.str _)⟩
    · cases e
  · split at e
    · rename_i hz
      cases e
      obtain ⟨p, vs, rfl, hp, r1, l1, _⟩ := ra.len w
      obtain ⟨q, us, rfl, hq, r2, l2, _⟩ := rb.len w
      have hz' : vs.length + us.length ≤ sizeLine := by rw [size_line, ← l1, ← l2]; exact hz
      refine op_catA pins s σ H _ _ v u Q I rx ry ⟨p, q, vs, us, rfl, rfl, hp, hq, hz', fun z => ?_, fun _ z => ?_, fun _ _ t ht => ?_⟩
      · subst z
        cases r1
        exact f.same w (.tup hq r2)
      · subst z
        cases r2
        rw [List.append_nil] at f
        exact f.same w (.tup hp r1)
      · exact f.tup w (r1.append r2) (by rw [List.length_append]; exact hz') ht
    · cases e
  · split at e
    · rename_i hz
      cases e
      obtain ⟨p, vs, rfl, hp, r1, l1, _⟩ := ra.lenL w
      obtain ⟨q, us, rfl, hq, r2, l2, _⟩ := rb.lenL w
      have hz' : vs.length + us.length ≤ sizeLine := by rw [size_line, ← l1, ← l2]; exact hz
      exact op_catR pins s σ H _ _ v u Q I rx ry ⟨p, q, vs, us, rfl, rfl, hp, hq, hz', fun t ht => f.lst w (r1.append r2) (by rw [List.length_append]; exact hz') ht⟩
    · cases e
  · cases ra; cases rb; cases e
    exact op_sub pins s σ H _ _ v u Q I rx ry ⟨_, _, rfl, rfl, f.same w (.int _)⟩
  · cases ra; cases rb
    split at e
    · rename_i hz
      cases e
      refine op_mul pins s σ H _ _ v u Q I rx ry ⟨_, _, rfl, rfl, ?_, f.same w (.int _)⟩
      rcases Bool.or_eq_true_iff.mp hz with z | z
      · exact .inl (inR_ok z)
      · exact .inr (inR_ok z)
    · cases e
  · cases ra; cases rb
    split at e
    · rename_i hz
      cases e
      exact op_fdiv pins s σ H _ _ v u Q I rx ry ⟨_, _, rfl, rfl, hz, f.same w (.int _)⟩
    · cases e
  · cases ra; cases rb
    split at e
    · rename_i hz
      cases e
      exact op_mod pins s σ H _ _ v u Q I rx ry ⟨_, _, rfl, rfl, hz, f.same w (.int _)⟩
    · cases e
  · cases ra; cases rb
    split at e
    · rename_i hz
      cases e
      exact op_pow pins s σ H _ _ v u Q I rx ry ⟨_, _, rfl, rfl, hz, f.same w (.int _)⟩
    · cases e
  · cases e

/-! ### comparisons -/
mutual
theorem Rep.dp : ∀ {d : D} {v : V}, d.plain = true → Rep K W H d v → Dp K H v d.py
  | _, _, _, .non => .non
  | _, _, _, .bl b => .bl b
  | _, _, _, .int i => .int i
  | _, _, _, .str x => .str x
  | _, _, p, .tup h r => .tup h (Reps.dp p r)
  | _, _, p, .lst _ h r => .lst (.inl h) (Reps.dp p r)
  | _, _, p, .ref _ => by cases p
theorem Reps.dp : ∀ {ds : List D} {vs : List V}, D.plains ds = true → Reps K W H ds vs → DpAll K H vs (D.pys ds)
  | _, _, _, .nil => .nil
  | _, _, p, .cons r t => by
    have q := Bool.and_eq_true_iff.mp p
    exact .cons (Rep.dp q.1 r) (Reps.dp q.2 t)
end
theorem See.dp {d : D} {v : V} (p : d.plain = true) (r : See K W H d v) : Dp K H v d.py := by
  cases r with
  | non => exact .non
  | bl b => exact .bl b
  | int i => exact .int i
  | str x => exact .str x
  | tup h r => exact .tup h (r.dp p)
  | lst h r => exact .lst (.inl h) (r.dp p)
def rCmp (K : PySem.W.Frag) (op : CmpOp) : R2 := fun x y H Q => ∃ W S a b c, WS K W H S ∧ See K W H a x ∧ See K W H b y ∧ cmpD op a b = some c ∧ Q (.bl c) H
theorem eqv_some {a b : D} {c : Bool} (h : D.eqv a b = some c) : a.plain = true ∧ b.plain = true ∧ SeqAt.shaped a.py = true ∧ SeqAt.shaped b.py = true ∧ PyData.eqv a.py b.py = c := by
  unfold D.eqv at h
  split at h
  · rename_i q
    simp only [Bool.and_eq_true] at q
    exact ⟨q.1.1.1, q.1.1.2, q.1.2, q.2, Option.some.inj h⟩
  · cases h
theorem op_cmp (hu : X.A.units + 64 < cLine) (op : CmpOp) : OpR X (compareOp op) (rCmp X.K op) := by
  intro pins s σ H x y v u Q I rx ry h
  obtain ⟨W, S, a, b, c, w, ra, rb, e, q⟩ := h
  unfold cmpD at e
  split at e
  · obtain ⟨p1, p2, s1, s2, e2⟩ := eqv_some e
    exact op_eqD hu pins s σ H _ _ v u Q I rx ry ⟨_, _, ra.dp p1, rb.dp p2, s1, s2, by rw [e2]; exact q⟩
  · cases z : D.eqv a b with
    | none => rw [z] at e; cases e
    | some k =>
      rw [z] at e
      obtain ⟨p1, p2, s1, s2, e2⟩ := eqv_some z
      have e3 : (!k) = c := Option.some.inj e
      exact op_neD hu pins s σ H _ _ v u Q I rx ry ⟨_, _, ra.dp p1, rb.dp p2, s1, s2, by rw [e2, e3]; exact q⟩
  · cases ra; cases rb; cases e
    exact op_lt pins s σ H _ _ v u Q I rx ry ⟨_, _, rfl, rfl, q⟩
  · cases ra; cases rb; cases e
    exact op_le pins s σ H _ _ v u Q I rx ry ⟨_, _, rfl, rfl, q⟩
  · cases ra; cases rb; cases e
    exact op_gt pins s σ H _ _ v u Q I rx ry ⟨_, _, rfl, rfl, q⟩
  · cases ra; cases rb; cases e
    exact op_ge pins s σ H _ _ v u Q I rx ry ⟨_, _, rfl, rfl, q⟩
  · cases e
  · cases rb; cases e
    refine op_isN pins s σ H _ _ v u Q I rx ry ⟨rfl, ?_⟩
    cases ra <;> exact q
  · cases e
  · cases rb; cases e
    refine op_notN pins s σ H _ _ v u Q I rx ry ⟨rfl, ?_⟩
    cases ra <;> exact q
  · cases e

/-! ### truth, items, slices -/
theorem isEmpty_eq {α β : Type} {xs : List α} {ys : List β} (h : xs.length = ys.length) : xs.isEmpty = ys.isEmpty := by
  cases xs <;> cases ys <;> first | rfl | (simp at h)
theorem See.tru {d : D} {v : V} {b : Bool} (r : See K W H d v) (e : truD d = some b) : TruV K v H b := by
  cases r with
  | non => cases e; exact rfl
  | bl b => cases e; exact rfl
  | int i => cases e; exact rfl
  | str x =>
    have e : (if x.length ≤ LINE then some ((x.length : Int) != 0) else none) = some b := e
    split at e
    · rename_i h
      cases e
      exact ⟨by rw [size_line]; exact h, rfl⟩
    · cases e
  | tup h r => cases e; exact .inr (.inl ⟨_, h, by rw [isEmpty_eq r.length]⟩)
  | lst h r => cases e; exact .inl ⟨_, .inl h, by rw [isEmpty_eq r.length]⟩
theorem ixN_len {α β : Type} {xs : List α} {ys : List β} (h : xs.length = ys.length) (i : Int) : ixN xs.length i = ixN ys.length i := by rw [h]
theorem atI_rep {ds : List D} {vs : List V} {i : Int} {d : D} (r : Reps K W H ds vs) (h : atI ds i = some d) : ∃ v, atI vs i = some v ∧ Rep K W H d v := by
  unfold atI at h ⊢
  rw [← r.length]
  cases e : ixN ds.length i with
  | none => rw [e] at h; cases h
  | some j =>
    rw [e] at h
    exact r.get h
def rItem (K : PySem.W.Frag) : R2 := fun x y H Q => ∃ W S a b d, WS K W H S ∧ See K W H a x ∧ See K W H b y ∧ itemD a b = some d ∧ Fin K W H S d Q
theorem ix_item : IxR X (rItem X.K) := by
  intro value slice pins s σ H x y v u Q I rx ry h hs
  obtain ⟨W, S, a, b, d, w, ra, rb, e, f⟩ := h
  unfold itemD at e
  split at e
  · obtain ⟨p, vs, rfl, hp, r1, _, _⟩ := ra.len w
    cases rb
    obtain ⟨z, hz, rz⟩ := atI_rep r1 e
    exact ix_tup value slice pins s σ H _ _ v u Q I rx ry ⟨p, vs, _, z, rfl, rfl, hp, hz, f.same w rz⟩ hs
  · obtain ⟨p, vs, rfl, hp, r1, _, _⟩ := ra.lenL w
    cases rb
    obtain ⟨z, hz, rz⟩ := atI_rep r1 e
    exact ix_list value slice pins s σ H _ _ v u Q I rx ry ⟨p, vs, _, z, rfl, rfl, .inl hp, hz, f.same w rz⟩ hs
  · cases e
theorem cut_rep {ds : List D} {vs : List V} (r : Reps K W H ds vs) (lo hi : Option Int) : Reps K W H (cutD ds lo hi) (cutV vs lo hi) := by
  unfold cutD cutV
  rw [r.length]
  exact (r.drop _).take _
def rSlD (K : PySem.W.Frag) : V → Option Int → Option Int → Hp → VK → Prop := fun x lo hi H Q => ∃ W S a d, WS K W H S ∧ See K W H a x ∧ sliceD a lo hi = some d ∧ Fin K W H S d Q
theorem cutV_whole {xs : List V} {lo hi : Option Int} (h : HT.sIx xs.length 0 lo = 0 ∧ HT.sIx xs.length xs.length hi = xs.length) : cutV xs lo hi = xs := by
  unfold cutV
  rw [h.1, h.2, List.drop_zero, Nat.sub_zero, List.take_length]
theorem sl_D : SlR X (rSlD X.K) := by
  intro pins s σ H x v vl vu lo hi sl Q I rx hs pl pu h
  obtain ⟨W, S, a, d, w, ra, e, f⟩ := h
  unfold sliceD at e
  split at e
  · cases e
    obtain ⟨p, vs, rfl, hp, r1, _, hl⟩ := ra.len w
    refine sl_tupA pins s σ H _ v vl vu lo hi sl Q I rx hs pl pu ⟨p, vs, rfl, hp, fun z => ?_, fun _ t ht => ?_⟩
    · have c := cut_rep r1 lo hi
      rw [cutV_whole z] at c
      exact f.same w (.tup hp c)
    · exact f.tup w (cut_rep r1 lo hi) (Nat.le_trans (cutV_length _ _ _) hl) ht
  · cases e

/-! ### built-ins -/
theorem ints_rep : ∀ {ds : List D} {vs : List V} {is : List Int}, Reps K W H ds vs → intsOf ds = some is → vs = is.map V.int
  | _, _, _, .nil, e => by cases e; rfl
  | _, _, is, .cons (d := d) (ds := ds) r t, e => by
    cases d with
    | int i =>
      cases r
      cases q : intsOf ds with
      | none => unfold intsOf at e; rw [q] at e; cases e
      | some js =>
        unfold intsOf at e
        rw [q] at e
        cases e
        rw [ints_rep t q]
        rfl
    | _ => cases e
def Sees (K : PySem.W.Frag) (W : Wd) (H : Hp) : List D → List V → Prop := Paired (See K W H)
theorem RepTs.sees (w : WS K W H S) : ∀ {ds : List D} {vs : List V}, RepTs K W H ds vs → Sees K W H (ds.map (view S)) vs
  | _, _, .nil => .nil
  | _, _, .cons r t => .cons (r.see w) (RepTs.sees w t)
def rCall (K : PySem.W.Frag) (x : Str) : List V → Hp → VK → Prop := fun vs H Q => ∃ W S ds d, WS K W H S ∧ Sees K W H ds vs ∧ callD x ds = some d ∧ Fin K W H S d Q
theorem one_see {d : D} {vs : List V} (r : Sees K W H [d] vs) : ∃ v, vs = [v] ∧ See K W H d v := by
  cases r with
  | cons a t => cases t; exact ⟨_, rfl, a⟩
theorem two_see {d e : D} {vs : List V} (r : Sees K W H [d, e] vs) : ∃ v u, vs = [v, u] ∧ See K W H d v ∧ See K W H e u := by
  cases r with
  | cons a t =>
    cases t with
    | cons b t => cases t; exact ⟨_, _, rfl, a, b⟩
theorem cb_len : CallR X (.builtin "len") (rCall X.K "len") := by
  intro pins s σ H xs us Q I r h
  obtain ⟨W, S, ds, d, w, rs, e, f⟩ := h
  unfold callD at e
  split at e
  · rw [if_pos rfl] at e
    obtain ⟨v, rfl, rv⟩ := one_see rs
    split at e
    · cases e
      obtain ⟨p, vs, rfl, hp, r1, l1, _⟩ := rv.len w
      exact call_len_seq pins s σ H _ us Q I r ⟨p, vs, rfl, .inr hp, by rw [← l1]; exact f.same w (.int _)⟩
    · cases e
      obtain ⟨p, vs, rfl, hp, r1, l1, _⟩ := rv.lenL w
      exact call_len_seq pins s σ H _ us Q I r ⟨p, vs, rfl, .inl (.inl hp), by rw [← l1]; exact f.same w (.int _)⟩
    · split at e
      · rename_i hz
        cases e; cases rv
        exact call_len_str pins s σ H _ us Q I r ⟨_, rfl, by rw [size_line]; exact hz, f.same w (.int _)⟩
      · cases e
    · cases e
  · rw [if_neg (by decide), if_neg (by decide)] at e; cases e
  · cases e
theorem cb_sum (hc : X.calm = true) : CallR X (.builtin "sum") (rCall X.K "sum") := by
  intro pins s σ H xs us Q I r h
  obtain ⟨W, S, ds, d, w, rs, e, f⟩ := h
  unfold callD at e
  split at e
  · rw [if_neg (by decide), if_pos rfl] at e
    obtain ⟨v, rfl, rv⟩ := one_see rs
    split at e
    · rename_i ds'
      cases z : intsOf ds' with
      | none => rw [z] at e; cases e
      | some is =>
        rw [z] at e
        cases e
        obtain ⟨p, vs, rfl, hp, r1, l1, _⟩ := rv.lenL w
        have ev := ints_rep r1 z
        subst ev
        exact cr_sum hc pins s σ H _ us Q I r ⟨p, is, rfl, .inl hp, f.same w (.int _)⟩
    · cases e
  · rw [if_neg (by decide), if_neg (by decide)] at e; cases e
  · cases e
theorem cb_tuple : CallR X (.type "tuple") (rCall X.K "tuple") := by
  intro pins s σ H xs us Q I r h
  obtain ⟨W, S, ds, d, w, rs, e, f⟩ := h
  unfold callD at e
  split at e
  · rw [if_neg (by decide), if_neg (by decide), if_pos rfl] at e
    obtain ⟨v, rfl, rv⟩ := one_see rs
    split at e
    · cases e
      obtain ⟨p, vs, rfl, hp, r1, l1, hl⟩ := rv.lenL w
      exact call_tuple_of pins s σ H _ us Q I r ⟨p, vs, rfl, .inl ⟨.inl hp, fun t ht => f.tup w r1 hl ht⟩⟩
    · cases e
      obtain ⟨p, vs, rfl, hp, r1, l1, _⟩ := rv.len w
      exact call_tuple_of pins s σ H _ us Q I r ⟨p, vs, rfl, .inr ⟨hp, f.same w (.tup hp r1)⟩⟩
    · cases e
  · rw [if_neg (by decide), if_neg (by decide)] at e; cases e
  · cases e
theorem cb_abs : CallR X (.builtin "abs") (rCall X.K "abs") := by
  intro pins s σ H xs us Q I r h
  obtain ⟨W, S, ds, d, w, rs, e, f⟩ := h
  unfold callD at e
  split at e
  · rw [if_neg (by decide), if_neg (by decide), if_neg (by decide), if_pos rfl] at e
    obtain ⟨v, rfl, rv⟩ := one_see rs
    split at e
    · cases e; cases rv
      exact call_abs pins s σ H _ us Q I r ⟨_, rfl, f.same w (.int _)⟩
    · cases e
  · rw [if_neg (by decide), if_neg (by decide)] at e; cases e
  · cases e
theorem cb_int : CallR X (.type "int") (rCall X.K "int") := by
  intro pins s σ H xs us Q I r h
  obtain ⟨W, S, ds, d, w, rs, e, f⟩ := h
  unfold callD at e
  split at e
  · rw [if_neg (by decide), if_neg (by decide), if_neg (by decide), if_neg (by decide), if_pos rfl] at e
    obtain ⟨v, rfl, rv⟩ := one_see rs
    split at e
    · cases e; cases rv
      exact call_int1 pins s σ H _ us Q I r (.inl ⟨_, rfl, f.same w (.int _)⟩)
    · cases e; cases rv
      exact call_int1 pins s σ H _ us Q I r (.inr ⟨_, rfl, f.same w (.int _)⟩)
    · cases e
  · rw [if_neg (by decide), if_neg (by decide)] at e; cases e
  · cases e
theorem cb_max (hc : X.calm = true) : CallR X (.builtin "max") (rCall X.K "max") := by
  intro pins s σ H xs us Q I r h
  obtain ⟨W, S, ds, d, w, rs, e, f⟩ := h
  unfold callD at e
  split at e
  · rw [if_neg (by decide), if_neg (by decide), if_neg (by decide), if_neg (by decide), if_neg (by decide)] at e; cases e
  · rw [if_pos rfl] at e
    cases e
    obtain ⟨v, u, rfl, r1, r2⟩ := two_see rs
    cases r1; cases r2
    exact call_max2 hc pins s σ H _ us Q I r ⟨_, _, rfl, f.same w (.int _)⟩
  · cases e
theorem cb_min (hc : X.calm = true) : CallR X (.builtin "min") (rCall X.K "min") := by
  intro pins s σ H xs us Q I r h
  obtain ⟨W, S, ds, d, w, rs, e, f⟩ := h
  unfold callD at e
  split at e
  · rw [if_neg (by decide), if_neg (by decide), if_neg (by decide), if_neg (by decide), if_neg (by decide)] at e; cases e
  · rw [if_neg (by decide), if_pos rfl] at e
    cases e
    obtain ⟨v, u, rfl, r1, r2⟩ := two_see rs
    cases r1; cases r2
    exact call_min2 hc pins s σ H _ us Q I r ⟨_, _, rfl, f.same w (.int _)⟩
  · cases e
/-- which built-in a name stands for -/
inductive BiV (X : Cx) : Str → V → Prop where
  | fn (x : Str) (id : String) : bootBuiltins x = some (.builtin id) → CallR X (.builtin id) (rCall X.K x) → BiV X x .non
  | ty (x : Str) (T : String) : bootBuiltins x = some (.type T) → CallR X (.type T) (rCall X.K x) → BiV X x .non
def tyN : D → String
  | .non => "NoneType" | .bl _ => "bool" | .int _ => "int" | .str _ => "str" | .tup _ => "tuple" | .lst _ => "list" | .ref _ => ""
theorem tyx {d : D} {v : V} (w : WS K W H S) (r : See K W H d v) {T : String} (h : tyN d = T) : TyX K H v (.type T) := by
  subst h
  cases r with
  | non => exact .base .non
  | bl b => exact .base (.bl b)
  | int i => exact .base (.int i)
  | str x => exact .base (.str x)
  | tup h _ =>
    rcases h with (h | ⟨o, h⟩) | ⟨o, its, n, e, c, _⟩
    · exact .base (.tup h)
    · exact .fTuple h
    · exact .kTuple e c
  | lst h _ =>
    rcases h with h | ⟨o, h⟩
    · exact .base (.lst h)
    · exact .base (.frz h)
def rIsiD (K : PySem.W.Frag) (T : Str) : List V → Hp → VK → Prop := fun vs H Q => ∃ W S d v Ts b, vs = [v, .ty Ts] ∧ T = Str.ofString Ts ∧ WS K W H S ∧ See K W H d v ∧ isiD T d = some b ∧ Q (.bl b) H
end
end Lw
set_option maxHeartbeats 1000000
/-! LwD: expressions: the evaluator is right. -/
namespace Lw
open PySem PySem.Spec PyProof.Rows L2

/-- what a def promises, by the evaluator -/
def spD (K : PySem.W.Frag) (ev : Str → Value) (np : Nat) (f : List D → Sto → R D) : Sp := fun vs H Q Ex => vs.length = np ∧ ∃ W S ds, WS K W H S ∧ Reps K W H ds vs ∧
  Res K ⟨W, H⟩ (fun c _ H' => Ex (ev c) none H') W H [] [] (f ds S) fun d _ W' H' => ∀ v, Rep K W' H' d v → Q v H'
/-- the wish about errors -/
def wxOf (ev : Str → Value) (Xw : Str → L2.St → Hp → Prop) : WX := fun cls d σ H => ∃ c, cls = ev c ∧ d = none ∧ Xw c σ H

/-- what a body's context gives, whatever its block -/
structure Cok (X : Cx) (g : G) (C : Call) (ev : Str → Value) (E : Ent) (N : List Str) (sc : Scope) (Xw : Str → L2.St → Hp → Prop) (k : Nat) : Prop where
  hN : X.N = N
  nd : N.Nodup
  hsc : X.env.scope = sc
  calm : X.calm = true
  room : Room k X.A
  tk : Takes X (wxOf ev Xw)
  con : ∀ x d, g.con x = some d → ∃ u v, X.mg x = some u ∧ RelV v u ∧ ∀ W H, Rep X.K W H d v
  fns : ∀ x fd, g.fn x = some fd → ∃ f fdat, X.mg x = some (.ref f) ∧ PySem.W.keepIn X.K (.ref f) = true ∧ Binds X.K fdat fd.ps [] ∧ FnOk X.prog X.w X.K X.mg X.base (L2.CX X.prog X.w) k f fdat fd.ps (spD X.K ev fd.ps.length (C x))
  bis : ∀ x, g.bi x = true → X.mg x = none
  ar : ∀ x fd ds S, g.fn x = some fd → C x ds S ≠ .bad → ds.length = fd.ps.length

section
variable {X : Cx} {g : G} {C : Call} {ev : Str → Value} {E : Ent} {N : List Str} {sc : Scope} {Xw : Str → L2.St → Hp → Prop} {k : Nat}
theorem Cok.hu (c : Cok X g C ev E N sc Xw k) : X.A.units + 64 < cLine := c.room.units

theorem no_bad {t : TE} {e : Expr} (h : ∀ σ H Q, ¬ t σ H Q) : PE X e t := ⟨fun _ _ σ H Q _ q => absurd q (h σ H Q)⟩
theorem no_badA {t : TA} {e : List Expr} (h : ∀ σ H Q, ¬ t σ H Q) : PA X e t := ⟨fun _ _ _ σ H Q _ q => absurd q (h σ H Q)⟩
theorem no_badT {t : TT} {e : Expr} (h : ∀ σ H Q, ¬ t σ H Q) : PT X e t := ⟨fun _ _ σ H Q _ q => absurd q (h σ H Q)⟩
theorem no_badW {t : TT} {e : Expr} (h : ∀ σ H Q, ¬ t σ H Q) : PW X e t := ⟨fun _ _ _ σ H Q _ q => absurd q (h σ H Q)⟩
theorem no_badI {t : TI} {tg e : Expr} (h : ∀ σ H Q, ¬ t σ H Q) : PI X tg e t := ⟨fun _ _ σ H Q _ q => absurd q (h σ H Q)⟩
theorem nE : ∀ σ H Q, ¬ tE X.K E Xw (fun _ _ => .bad) σ H Q := fun σ H Q ⟨_, _, _, _, h⟩ => h
theorem nT : ∀ σ H Q, ¬ tT X.K E Xw (fun _ _ => .bad) σ H Q := fun σ H Q ⟨_, _, _, _, h⟩ => h
theorem nA : ∀ σ H Q, ¬ tA X.K E Xw (fun _ _ => .bad) σ H Q := fun σ H Q ⟨_, _, _, _, h⟩ => h
theorem nTs : ∀ σ H Q, ¬ tTs X.K E Xw (fun _ _ => .bad) σ H Q := fun σ H Q ⟨_, _, _, _, h⟩ => h
theorem nB : ∀ σ H Q, ¬ tBl X.K E Xw (fun _ _ => .bad) σ H Q := fun σ H Q ⟨_, _, _, _, h⟩ => h
theorem nI : ∀ σ H Q, ¬ tI X.K E Xw (fun _ _ => .bad) σ H Q := fun σ H Q ⟨_, _, _, _, h⟩ => h

/-! ### one, two parts -/
variable {fa fb : Ev → Sto → R D}
theorem two {gg : D → D → Sto → R D} {σ : L2.St} {H : Hp} {Q : VK} {r : R2} (h : tE X.K E Xw (fun ρ S => (fa ρ S).bind fun x S1 => (fb ρ S1).bind fun y S2 => gg x y S2) σ H Q)
    (kk : ∀ ρ S W2 H2 x y v u, Rel X.K E W2 H2 ρ σ S → RepT X.K W2 H2 x v → RepT X.K W2 H2 y u → Res X.K E Xw W2 H2 ρ σ (gg x y S) (fun d _ W' H' => ∀ v, Rep X.K W' H' d v → Q v H') → r v u H2 Q) : tOp r (tT X.K E Xw fa) (tT X.K E Xw fb) σ H Q := by
  obtain ⟨W, ρ, S, rel, res⟩ := h
  refine ⟨W, ρ, S, rel, (Res.bind res).mono fun x S1 W1 H1 l1 w1 p v rv => ?_⟩
  refine ⟨W1, ρ, S1, rel.step l1 w1, (Res.bind p).mono fun y S2 W2 H2 l2 w2 q u ru => ?_⟩
  exact kk ρ S2 W2 H2 x y v u ((rel.step l1 w1).step l2 w2) (rv.le w1 l2) ru q
theorem twoE {gg : D → D → Sto → R D} {σ : L2.St} {H : Hp} {Q : VK} {r : R2} (h : tE X.K E Xw (fun ρ S => (fa ρ S).bind fun x S1 => (fb ρ S1).bind fun y S2 => gg x y S2) σ H Q)
    (kk : ∀ ρ S W2 H2 x y v u, Rel X.K E W2 H2 ρ σ S → RepT X.K W2 H2 x v → Rep X.K W2 H2 y u → Res X.K E Xw W2 H2 ρ σ (gg x y S) (fun d _ W' H' => ∀ v, Rep X.K W' H' d v → Q v H') → r v u H2 Q) : tOp r (tT X.K E Xw fa) (tE X.K E Xw fb) σ H Q := by
  obtain ⟨W, ρ, S, rel, res⟩ := h
  refine ⟨W, ρ, S, rel, (Res.bind res).mono fun x S1 W1 H1 l1 w1 p v rv => ?_⟩
  refine ⟨W1, ρ, S1, rel.step l1 w1, (Res.bind p).mono fun y S2 W2 H2 l2 w2 q u ru => ?_⟩
  exact kk ρ S2 W2 H2 x y v u ((rel.step l1 w1).step l2 w2) (rv.le w1 l2) ru q

theorem den_bin {a b : Expr} {op : Operator} {pos : Pos} (ha : PE X a (tT X.K E Xw fa)) (hb : PE X b (tT X.K E Xw fb)) :
    PE X (.BinOp a op b pos) (tE X.K E Xw fun ρ S => (fa ρ S).bind fun x S1 => (fb ρ S1).bind fun y S2 => R.opt (binD op (view S2 x) (view S2 y)) S2) := by
  refine (pe_op (op_bin op) ha hb).wk fun σ H Q h => two h fun ρ S W2 H2 x y v u rel rx ry res => ?_
  obtain ⟨d, e, f⟩ := res.opt
  exact ⟨W2, S, _, _, d, rel.ws, rx.see rel.ws, ry.see rel.ws, e, fun W' H' l w v r => f W' H' l w v r⟩
theorem den_cmp {a b : Expr} {op : CmpOp} {pos : Pos} (hm : behindInMarks op b = false) (hu : X.A.units + 64 < cLine) (ha : PE X a (tT X.K E Xw fa)) (hb : PE X b (tT X.K E Xw fb)) :
    PE X (.Compare a [op] [b] pos) (tE X.K E Xw fun ρ S => (fa ρ S).bind fun x S1 => (fb ρ S1).bind fun y S2 => R.opt ((cmpD op (view S2 x) (view S2 y)).map D.bl) S2) := by
  refine (pe_cmpR (op_cmp hu op) ha hb hm).wk fun σ H Q h => two h fun ρ S W2 H2 x y v u rel rx ry res => ?_
  obtain ⟨d, e, f⟩ := res.opt
  obtain ⟨c, e1, rfl⟩ := Option.map_eq_some_iff.mp e
  exact ⟨W2, S, _, _, c, rel.ws, rx.see rel.ws, ry.see rel.ws, e1, f W2 H2 rel.ws.refl rel.ws _ (.bl c)⟩
theorem den_cmpT {a b : Expr} {op : CmpOp} {pos : Pos} (hm : behindInMarks op b = false) (hu : X.A.units + 64 < cLine) (ha : PE X a (tT X.K E Xw fa)) (hb : PE X b (tT X.K E Xw fb)) :
    PT X (.Compare a [op] [b] pos) (tBl X.K E Xw fun ρ S => ((fa ρ S).bind fun x S1 => (fb ρ S1).bind fun y S2 => R.opt ((cmpD op (view S2 x) (view S2 y)).map D.bl) S2).bind fun d S1 => (match d with
      | .bl b => .ok b S1
      | _ => .bad)) := by
  refine (pt_cmpR (op_cmp hu op) ha hb hm).wk fun σ H Q h => ?_
  obtain ⟨W, ρ, S, rel, res⟩ := h
  refine two (gg := fun x y S2 => R.opt ((cmpD op (view S2 x) (view S2 y)).map D.bl) S2) (Q := fun x H' => ∃ k, x = V.bl k ∧ Q k H') ⟨W, ρ, S, rel, (Res.bind res).mono fun d S1 W1 H1 l1 w1 p v rv => ?_⟩ fun ρ S W2 H2 x y v u rel rx ry res => ?_
  · cases rv with
    | bl b => exact ⟨b, rfl, p W1 H1 w1.refl w1⟩
    | _ => exact False.elim p
  · obtain ⟨d, e, f⟩ := res.opt
    obtain ⟨c, e1, rfl⟩ := Option.map_eq_some_iff.mp e
    exact ⟨W2, S, _, _, c, rel.ws, rx.see rel.ws, ry.see rel.ws, e1, f W2 H2 rel.ws.refl rel.ws _ (.bl c)⟩
/-- a chain of two -/
theorem chain_red {fc : Ev → Sto → R D} {op op' : CmpOp} {σ : L2.St} {H : Hp} {Q : VK}
    (h : tE X.K E Xw (fun ρ S => (fa ρ S).bind fun x S1 => (fb ρ S1).bind fun y S2 => (R.opt (cmpD op (view S2 x) (view S2 y)) S2).bind fun t S3 =>
          if t then (fc ρ S3).bind fun z S4 => R.opt ((cmpD op' (view S4 y) (view S4 z)).map D.bl) S4 else .ok (.bl false) S3) σ H Q) :
    tChain (rCmp X.K op) (rCmp X.K op') (tT X.K E Xw fa) (tT X.K E Xw fb) (tT X.K E Xw fc) σ H Q := by
  obtain ⟨W, ρ, S, rel, res⟩ := h
  refine ⟨W, ρ, S, rel, (Res.bind res).mono fun x S1 W1 H1 l1 w1 p v rv => ?_⟩
  refine ⟨W1, ρ, S1, rel.step l1 w1, (Res.bind p).mono fun y S2 W2 H2 l2 w2 q u ru => ?_⟩
  have rel2 := (rel.step l1 w1).step l2 w2
  obtain ⟨t, e, f⟩ := Res.opt (Res.bind q)
  refine ⟨W2, S2, _, _, t, w2, (rv.le w1 l2).see w2, ru.see w2, e, t, rfl, ?_⟩
  have f2 := f W2 H2 w2.refl w2
  cases t with
  | false =>
    rw [if_neg Bool.false_ne_true] at f2
    exact f2 W2 H2 w2.refl w2 _ (.bl false)
  | true =>
    rw [if_pos rfl]
    rw [if_pos rfl] at f2
    refine ⟨W2, ρ, S2, rel2, (Res.bind f2).mono fun z S4 W4 H4 l4 w4 p4 z' rz => ?_⟩
    obtain ⟨d, e4, f4⟩ := p4.opt
    obtain ⟨c, e5, rfl⟩ := Option.map_eq_some_iff.mp e4
    exact ⟨W4, S4, _, _, c, w4, (ru.le w2 l4).see w4, rz.see w4, e5, f4 W4 H4 w4.refl w4 _ (.bl c)⟩
theorem den_chain {a b c : Expr} {fc : Ev → Sto → R D} {op op' : CmpOp} {pos : Pos} (hm : lastMarks [op, op'] [b, c] = false) (hu : X.A.units + 64 < cLine) (ha : PE X a (tT X.K E Xw fa)) (hb : PE X b (tT X.K E Xw fb)) (hc : PE X c (tT X.K E Xw fc)) :
    PE X (.Compare a [op, op'] [b, c] pos) (tE X.K E Xw fun ρ S => (fa ρ S).bind fun x S1 => (fb ρ S1).bind fun y S2 => (R.opt (cmpD op (view S2 x) (view S2 y)) S2).bind fun t S3 =>
          if t then (fc ρ S3).bind fun z S4 => R.opt ((cmpD op' (view S4 y) (view S4 z)).map D.bl) S4 else .ok (.bl false) S3) :=
  (pe_chain (op_cmp hu op) (op_cmp hu op') ha hb hc hm).wk fun σ H Q h => chain_red h
theorem den_chainT {a b c : Expr} {fc : Ev → Sto → R D} {op op' : CmpOp} {pos : Pos} (hm : lastMarks [op, op'] [b, c] = false) (hu : X.A.units + 64 < cLine) (ha : PE X a (tT X.K E Xw fa)) (hb : PE X b (tT X.K E Xw fb)) (hc : PE X c (tT X.K E Xw fc)) :
    PT X (.Compare a [op, op'] [b, c] pos) (tBl X.K E Xw fun ρ S => ((fa ρ S).bind fun x S1 => (fb ρ S1).bind fun y S2 => (R.opt (cmpD op (view S2 x) (view S2 y)) S2).bind fun t S3 =>
          if t then (fc ρ S3).bind fun z S4 => R.opt ((cmpD op' (view S4 y) (view S4 z)).map D.bl) S4 else .ok (.bl false) S3).bind fun d S1 => (match d with
      | .bl b => .ok b S1
      | _ => .bad)) := by
  refine (pt_chain (op_cmp hu op) (op_cmp hu op') ha hb hc hm).wk fun σ H Q h => ?_
  obtain ⟨W, ρ, S, rel, res⟩ := h
  refine chain_red (Q := fun x H' => ∃ k, x = V.bl k ∧ Q k H') ⟨W, ρ, S, rel, (Res.bind res).mono fun d S1 W1 H1 l1 w1 p v rv => ?_⟩
  cases rv with
  | bl b => exact ⟨b, rfl, p W1 H1 w1.refl w1⟩
  | _ => exact False.elim p
theorem den_item {a b : Expr} {pos : Pos} (hs : PlainIx b) (ha : PE X a (tT X.K E Xw fa)) (hb : PE X b (tE X.K E Xw fb)) :
    PE X (.Subscript a b pos) (tE X.K E Xw fun ρ S => (fa ρ S).bind fun x S1 => (fb ρ S1).bind fun y S2 => R.opt (itemD (view S2 x) y) S2) := by
  refine (pe_ix ix_item ha hb hs).wk fun σ H Q h => twoE h fun ρ S W2 H2 x y v u rel rx ry res => ?_
  obtain ⟨d, e, f⟩ := res.opt
  have ry' : See X.K W2 H2 y u := by
    have ry2 := (show RepT X.K W2 H2 y u from .inl ry).see rel.ws
    cases y with
    | ref i => unfold itemD at e; split at e <;> first | cases e | (rename_i h1 h2; cases h2)
    | _ => exact ry2
  exact ⟨W2, S, _, _, d, rel.ws, rx.see rel.ws, ry', e, fun W' H' l w v r => f W' H' l w v r⟩

/-! ### constants, names -/
theorem den_c {e : Expr} {v : V} {d : D} (h : PE X e (tC v)) (r : ∀ W H, Rep X.K W H d v) : PE X e (tE X.K E Xw fun _ S => .ok d S) :=
  h.wk fun σ H Q ⟨W, ρ, S, rel, res⟩ => res W H rel.ws.refl rel.ws v (r W H)
theorem ix_ok {x : Str} (h : ixOf N x < N.length) : N[ixOf N x]? = some x := by
  have q := List.findIdx_getElem (p := (· == x)) (w := h)
  rw [List.getElem?_eq_getElem h]
  exact congrArg some (beq_iff_eq.mp q)
theorem getSl_lt {ρ : Ev} {i : Nat} {s : Sl} (h : getSl ρ i = s) (ne : s ≠ .un) : i < ρ.length := by
  unfold getSl at h
  by_cases hi : i < ρ.length
  · exact hi
  · rw [List.getD_eq_getElem?_getD, List.getElem?_eq_none (Nat.le_of_not_lt hi)] at h
    exact absurd h.symm ne
theorem visOk {x : Str} (h : visB sc x = true) (e : X.env.scope = sc) : Vis X.env.scope x := by
  rw [e]
  unfold visB kindB at h
  unfold Vis
  split at h
  · exact .inl (by assumption)
  · exact .inr (.inl (by assumption))
  · exact .inr (.inr (by assumption))
  · cases h
theorem glOk {x : Str} (h : glB sc x = true) (e : X.env.scope = sc) : Gl X x := by
  unfold glB kindB at h
  show X.env.scope.names.lookup x = some .globalImplicit
  rw [e]
  split at h
  · assumption
  · cases h
theorem plain3 {x : Str} (h : plainName x = true) : (x == ("__debug__" : Str)) = false ∧ (x == ("__classdict__" : Str)) = false ∧ x ≠ "__name__" := by
  unfold plainName at h
  simp only [Bool.and_eq_true, Bool.not_eq_true'] at h
  exact ⟨h.1.1, h.1.2, fun z => by rw [z] at h; simp at h⟩
theorem slot_len {σ : L2.St} {H : Hp} {ρ : Ev} {S : Sto} {W : Wd} {pins : List (Addr × Obj)} {s : Shared} (c : Cok X g C ev E N sc Xw k) (I : Inv X pins σ H s) (r : Rel X.K E W H ρ σ S) : ρ.length = N.length := by
  rw [r.len, I.len, c.hN]
/-- a slot, by the place -/
theorem pe_slot {x : Str} {pos : Pos} (c : Cok X g C ev E N sc Xw k) (hp : plainName x = true) (hv : visB sc x = true) {t : TE}
    (h : ∀ pins s σ H Q, Inv X pins σ H s → t σ H Q → ixOf N x < N.length ∧ tVar (ixOf N x) σ H Q) : PE X (.Name x pos) t := by
  obtain ⟨h1, h2, _⟩ := plain3 hp
  refine ⟨fun pins s σ H Q I q => ?_⟩
  obtain ⟨hl, q2⟩ := h pins s σ H Q I q
  exact (pe_var (i := ixOf N x) (by rw [c.hN]; exact ix_ok hl) (visOk hv c.hsc) h1 h2).run pins s σ H Q I q2
theorem den_name {x : Str} {pos : Pos} (c : Cok X g C ev E N sc Xw k) (hp : plainName x = true) (hv : visB sc x = true) : PE X (.Name x pos) (tE X.K E Xw fun ρ S => match getSl ρ (ixOf N x) with
          | .val d => .ok d S
          | _ => .bad) := by
  refine pe_slot c hp hv fun pins s σ H Q I ⟨W, ρ, S, rel, res⟩ => ?_
  have hl := slot_len c I rel
  dsimp only at res
  cases e : getSl ρ (ixOf N x) with
  | val d =>
    rw [e] at res
    refine ⟨by rw [← hl]; exact getSl_lt e (fun z => by cases z), ?_⟩
    obtain ⟨v, h1, h2⟩ := rel.val _ _ e
    exact ⟨v, h1, res W H rel.ws.refl rel.ws v h2⟩
  | un => rw [e] at res; exact False.elim res
  | own ds => rw [e] at res; exact False.elim res
theorem den_nameT {x : Str} {pos : Pos} (c : Cok X g C ev E N sc Xw k) (hp : plainName x = true) (hv : visB sc x = true) : PE X (.Name x pos) (tT X.K E Xw fun ρ S => match getSl ρ (ixOf N x) with
          | .val d => .ok d S
          | .own ds => .ok (.lst ds) S
          | _ => .bad) := by
  refine pe_slot c hp hv fun pins s σ H Q I ⟨W, ρ, S, rel, res⟩ => ?_
  have hl := slot_len c I rel
  dsimp only at res
  cases e : getSl ρ (ixOf N x) with
  | val d =>
    rw [e] at res
    refine ⟨by rw [← hl]; exact getSl_lt e (fun z => by cases z), ?_⟩
    obtain ⟨v, h1, h2⟩ := rel.val _ _ e
    exact ⟨v, h1, res W H rel.ws.refl rel.ws v (.inl h2)⟩
  | un => rw [e] at res; exact False.elim res
  | own ds =>
    rw [e] at res
    refine ⟨by rw [← hl]; exact getSl_lt e (fun z => by cases z), ?_⟩
    obtain ⟨a, h1, vs, h2, h3, _, h5, _⟩ := rel.own _ _ e
    exact ⟨.ref a, h1, res W H rel.ws.refl rel.ws _ (.inr ⟨ds, a, vs, rfl, rfl, h2, h3, h5⟩)⟩
theorem den_glob {x : Str} {pos : Pos} (c : Cok X g C ev E N sc Xw k) (hp : plainName x = true) (hg : glB sc x = true) : PE X (.Name x pos) (tE X.K E Xw fun _ S => R.opt (g.con x) S) := by
  obtain ⟨h1, _, _⟩ := plain3 hp
  cases e : g.con x with
  | none => exact no_bad nE
  | some d =>
    obtain ⟨u, v, hm, r, hr⟩ := c.con x d e
    exact den_c (pe_glob (glOk hg c.hsc) hm r h1) hr

/-! ### not, -, and, or, if -/
theorem den_T {e : Expr} (h : PE X e (tE X.K E Xw fa)) : PE X e (tT X.K E Xw fa) := h.wk fun σ H Q ⟨W, ρ, S, rel, res⟩ => ⟨W, ρ, S, rel, res.mono fun d S1 W1 H1 l w p v r => p v (.inl r)⟩
theorem den_not {a : Expr} {pos : Pos} (ha : PE X a (tT X.K E Xw fa)) : PE X (.UnaryOp .Not a pos) (tE X.K E Xw fun ρ S => (fa ρ S).bind fun x S1 => R.opt ((truD (view S1 x)).map fun b => D.bl (!b)) S1) := by
  refine ⟨fun pins s σ H Q I ⟨W, ρ, S, rel, res⟩ => ?_⟩
  refine UnaryOp_ (thn (ha.run pins s σ H (fun x H1 => ∃ k, TruV X.K x H1 k ∧ Q (.bl (!k)) H1) I ⟨W, ρ, S, rel, (Res.bind res).mono fun d S1 W1 H1 l1 w1 p v rv => ?_⟩) fun v s1 ⟨x, H1, I1, r1, kk, hk, q⟩ => ?_)
  · obtain ⟨d', e, f⟩ := p.opt
    obtain ⟨b, e1, rfl⟩ := Option.map_eq_some_iff.mp e
    exact ⟨b, (rv.see w1).tru e1, f W1 H1 w1.refl w1 _ (.bl _)⟩
  · exact not_of (thn (tru_ok pins s1 σ H1 x v (fun b H' => Q (.bl (!b)) H') I1 r1 ⟨kk, hk, q⟩) fun b s2 ⟨H2, I2, q2⟩ => ⟨.bl (!b), H2, I2, rfl, q2⟩)
theorem den_neg {a : Expr} {pos : Pos} (ha : PE X a (tT X.K E Xw fa)) : PE X (.UnaryOp .USub a pos) (tE X.K E Xw fun ρ S => (fa ρ S).bind fun x S1 => (match x with
        | .int i => .ok (.int (-i)) S1
        | _ => .bad)) := by
  refine (pe_un un_neg ha).wk fun σ H Q ⟨W, ρ, S, rel, res⟩ => ⟨W, ρ, S, rel, (Res.bind res).mono fun d S1 W1 H1 l1 w1 p v rv => ?_⟩
  cases d with
  | int i =>
    rcases rv with rv | ⟨_, _, _, e, _⟩
    · cases rv
      exact ⟨i, rfl, p W1 H1 w1.refl w1 _ (.int _)⟩
    · cases e
  | _ => exact False.elim p
theorem den_if {c a b : Expr} {fc : Ev → Sto → R Bool} {pos : Pos} (hc : PT X c (tBl X.K E Xw fc)) (ha : PE X a (tE X.K E Xw fa)) (hb : PE X b (tE X.K E Xw fb)) :
    PE X (.IfExp c a b pos) (tE X.K E Xw fun ρ S => (fc ρ S).bind fun t S1 => if t then fa ρ S1 else fb ρ S1) := by
  refine (pe_ifExp hc ha hb).wk fun σ H Q ⟨W, ρ, S, rel, res⟩ => ⟨W, ρ, S, rel, (Res.bind res).mono fun t S1 W1 H1 l1 w1 p => ?_⟩
  cases t with
  | true => rw [if_pos rfl]; exact ⟨W1, ρ, S1, rel.step l1 w1, p⟩
  | false => rw [if_neg Bool.false_ne_true]; exact ⟨W1, ρ, S1, rel.step l1 w1, p⟩
theorem den_and {a b : Expr} {rest : List Expr} {pos : Pos} (ha : PE X a (tE X.K E Xw fa)) (hb : PE X (.BoolOp .And (b :: rest) pos) (tE X.K E Xw fb)) :
    PE X (.BoolOp .And (a :: b :: rest) pos) (tE X.K E Xw fun ρ S => (fa ρ S).bind fun x S1 => (match x with
      | .bl b => if b then fb ρ S1 else .ok (.bl false) S1
      | _ => .bad)) := by
  refine (pe_and ha hb).wk fun σ H Q ⟨W, ρ, S, rel, res⟩ => ⟨W, ρ, S, rel, (Res.bind res).mono fun d S1 W1 H1 l1 w1 p v rv => ?_⟩
  cases rv with
  | bl b =>
    refine ⟨b, rfl, ?_⟩
    cases b with
    | true => rw [if_pos rfl]; exact ⟨W1, ρ, S1, rel.step l1 w1, p⟩
    | false => rw [if_neg Bool.false_ne_true]; exact p W1 H1 w1.refl w1 _ (.bl _)
  | _ => exact False.elim p
theorem den_or {a b : Expr} {rest : List Expr} {pos : Pos} (ha : PE X a (tE X.K E Xw fa)) (hb : PE X (.BoolOp .Or (b :: rest) pos) (tE X.K E Xw fb)) :
    PE X (.BoolOp .Or (a :: b :: rest) pos) (tE X.K E Xw fun ρ S => (fa ρ S).bind fun x S1 => (match x with
      | .bl b => if b then .ok (.bl true) S1 else fb ρ S1
      | _ => .bad)) := by
  refine (pe_or ha hb).wk fun σ H Q ⟨W, ρ, S, rel, res⟩ => ⟨W, ρ, S, rel, (Res.bind res).mono fun d S1 W1 H1 l1 w1 p v rv => ?_⟩
  cases rv with
  | bl b =>
    refine ⟨b, rfl, ?_⟩
    cases b with
    | true => rw [if_pos rfl]; exact p W1 H1 w1.refl w1 _ (.bl _)
    | false => rw [if_neg Bool.false_ne_true]; exact ⟨W1, ρ, S1, rel.step l1 w1, p⟩
  | _ => exact False.elim p
/-- an expression as a test -/
theorem den_tru {e : Expr} (he : ∀ whole, isTrue e X.env whole = (do let v ← whole; standAt e.pos; holding [v] (truthy v))) (h : PE X e (tT X.K E Xw fa)) : PT X e (tBl X.K E Xw fun ρ S => (fa ρ S).bind fun d S1 => R.opt (truD (view S1 d)) S1) := by
  refine (pt_truth h he).wk fun σ H Q ⟨W, ρ, S, rel, res⟩ => ⟨W, ρ, S, rel, (Res.bind res).mono fun d S1 W1 H1 l1 w1 p v rv => ?_⟩
  obtain ⟨b, e1, f⟩ := p.opt
  exact ⟨b, (rv.see w1).tru e1, f W1 H1 w1.refl w1⟩
theorem den_notT {a : Expr} {fc : Ev → Sto → R Bool} {pos : Pos} (h : PT X a (tBl X.K E Xw fc)) : PT X (.UnaryOp .Not a pos) (tBl X.K E Xw fun ρ S => (fc ρ S).bind fun b S1 => .ok (!b) S1) :=
  (pt_not h).wk fun σ H Q ⟨W, ρ, S, rel, res⟩ => ⟨W, ρ, S, rel, (Res.bind res).mono fun b S1 W1 H1 l1 w1 p => p W1 H1 w1.refl w1⟩
theorem den_wand {a b : Expr} {rest : List Expr} {fc fd : Ev → Sto → R Bool} {pos : Pos} (ha : PT X a (tBl X.K E Xw fc)) (hb : PW X (.BoolOp .And (b :: rest) pos) (tBl X.K E Xw fd)) :
    PW X (.BoolOp .And (a :: b :: rest) pos) (tBl X.K E Xw fun ρ S => (fc ρ S).bind fun b S1 => if b then fd ρ S1 else .ok false S1) := by
  refine (pw_and ha hb).wk fun σ H Q ⟨W, ρ, S, rel, res⟩ => ⟨W, ρ, S, rel, (Res.bind res).mono fun b S1 W1 H1 l1 w1 p => ?_⟩
  cases b with
  | true => rw [if_pos rfl]; exact ⟨W1, ρ, S1, rel.step l1 w1, p⟩
  | false => rw [if_neg Bool.false_ne_true]; exact p W1 H1 w1.refl w1
theorem den_wor {a b : Expr} {rest : List Expr} {fc fd : Ev → Sto → R Bool} {pos : Pos} (ha : PT X a (tBl X.K E Xw fc)) (hb : PW X (.BoolOp .Or (b :: rest) pos) (tBl X.K E Xw fd)) :
    PW X (.BoolOp .Or (a :: b :: rest) pos) (tBl X.K E Xw fun ρ S => (fc ρ S).bind fun b S1 => if b then .ok true S1 else fd ρ S1) := by
  refine (pw_or ha hb).wk fun σ H Q ⟨W, ρ, S, rel, res⟩ => ⟨W, ρ, S, rel, (Res.bind res).mono fun b S1 W1 H1 l1 w1 p => ?_⟩
  cases b with
  | true => rw [if_pos rfl]; exact p W1 H1 w1.refl w1
  | false => rw [if_neg Bool.false_ne_true]; exact ⟨W1, ρ, S1, rel.step l1 w1, p⟩

/-! ### lists of arguments -/
theorem den_anil : PA X [] (tA X.K E Xw fun _ S => .ok [] S) := pa_nil.wk fun σ H Q ⟨W, ρ, S, rel, res⟩ => res W H rel.ws.refl rel.ws [] .nil
theorem den_tsnil : PA X [] (tTs X.K E Xw fun _ S => .ok [] S) := pa_nil.wk fun σ H Q ⟨W, ρ, S, rel, res⟩ => res W H rel.ws.refl rel.ws [] .nil
theorem star_ok {e : Expr} {es : List Expr} {env : Env} (h : notStar e = true) : starEach (e :: es) env = (false, eval e env) :: starEach es env := by
  cases e <;> first | rfl | cases h
theorem star_no {e : Expr} (h : notStar e = false) : ∃ a p, e = .Starred a p := by
  cases e <;> first | exact ⟨_, _, rfl⟩ | cases h
theorem den_acons {e : Expr} {es : List Expr} {fs : Ev → Sto → R (List D)} (hn : notStar e = true) (he : PE X e (tE X.K E Xw fa)) (hs : PA X es (tA X.K E Xw fs)) :
    PA X (e :: es) (tA X.K E Xw fun ρ S => (fa ρ S).bind fun d S1 => (fs ρ S1).bind fun ds S2 => .ok (d :: ds) S2) := by
  refine (pa_cons he hs (star_ok hn)).wk fun σ H Q ⟨W, ρ, S, rel, res⟩ => ⟨W, ρ, S, rel, (Res.bind res).mono fun d S1 W1 H1 l1 w1 p v rv => ?_⟩
  refine ⟨W1, ρ, S1, rel.step l1 w1, (Res.bind p).mono fun ds S2 W2 H2 l2 w2 q vs rvs => ?_⟩
  exact q W2 H2 w2.refl w2 _ (.cons (rv.pre (l2.pre w1)) rvs)
theorem den_tscons {e : Expr} {es : List Expr} {fs : Ev → Sto → R (List D)} (hn : notStar e = true) (he : PE X e (tT X.K E Xw fa)) (hs : PA X es (tTs X.K E Xw fs)) :
    PA X (e :: es) (tTs X.K E Xw fun ρ S => (fa ρ S).bind fun d S1 => (fs ρ S1).bind fun ds S2 => .ok (d :: ds) S2) := by
  refine (pa_cons he hs (star_ok hn)).wk fun σ H Q ⟨W, ρ, S, rel, res⟩ => ⟨W, ρ, S, rel, (Res.bind res).mono fun d S1 W1 H1 l1 w1 p v rv => ?_⟩
  refine ⟨W1, ρ, S1, rel.step l1 w1, (Res.bind p).mono fun ds S2 W2 H2 l2 w2 q vs rvs => ?_⟩
  exact q W2 H2 w2.refl w2 _ (.cons (rv.le w1 l2) rvs)
theorem den_tup {es : List Expr} {fs : Ev → Sto → R (List D)} {kk : Nat} {pos : Pos} (h : PA X es (tA X.K E Xw fs)) : PE X (.Tuple es kk pos) (tE X.K E Xw fun ρ S => (fs ρ S).bind fun ds S1 => if ds.length ≤ LINE then .ok (.tup ds) S1 else .bad) := by
  refine (pe_tup h).wk fun σ H Q ⟨W, ρ, S, rel, res⟩ => ⟨W, ρ, S, rel, (Res.bind res).mono fun ds S1 W1 H1 l1 w1 p vs rv => ?_⟩
  split at p
  · rename_i hz
    have hz' : vs.length ≤ sizeLine := by rw [size_line, ← rv.length]; exact hz
    exact ⟨hz', fun t ht => Fin.tup (S := S1) w1 p rv hz' ht⟩
  · exact False.elim p
theorem den_lst {es : List Expr} {fs : Ev → Sto → R (List D)} {pos : Pos} (h : PA X es (tA X.K E Xw fs)) : PE X (.List es pos) (tE X.K E Xw fun ρ S => (fs ρ S).bind fun ds S1 => if ds.length ≤ LINE then .ok (.lst ds) S1 else .bad) := by
  refine (pe_lst h).wk fun σ H Q ⟨W, ρ, S, rel, res⟩ => ⟨W, ρ, S, rel, (Res.bind res).mono fun ds S1 W1 H1 l1 w1 p vs rv => ?_⟩
  split at p
  · rename_i hz
    have hz' : vs.length ≤ sizeLine := by rw [size_line, ← rv.length]; exact hz
    exact ⟨hz', fun t ht => Fin.lst (S := S1) w1 p rv hz' ht⟩
  · exact False.elim p

/-! ### calls -/
theorem back_plain : ∀ {es : List Expr} {env : Env} {pos : Pos}, es.all notStar = true → (backTo pos (starEach es env)).any (·.1) = false
  | [], _, _, _ => rfl
  | e :: es, env, pos, h => by
    have q := Bool.and_eq_true_iff.mp (show (notStar e && es.all notStar) = true from h)
    rw [star_ok q.1]
    show (false || (backTo pos (starEach es env)).any (·.1)) = false
    rw [back_plain q.2] <;> rfl
theorem den_call {x : Str} {e : Expr} {es : List Expr} {fs : Ev → Sto → R (List D)} {p pos : Pos} (c : Cok X g C ev E N sc Xw k) (hp : plainName x = true) (hg : glB sc x = true) (hf : (g.fn x).isSome = true) (hn : (e :: es).all notStar = true)
    (h : PA X (e :: es) (tA X.K E Xw fs)) : PE X (.Call (.Name x p) (e :: es) [] pos) (tE X.K E Xw fun ρ S => (fs ρ S).bind fun ds S1 => C x ds S1) := by
  obtain ⟨fd, hfd⟩ := Option.isSome_iff_exists.mp hf
  obtain ⟨f, fdat, hm, hk, hb, F⟩ := c.fns x fd hfd
  have q := Bool.and_eq_true_iff.mp (show (notStar e && es.all notStar) = true from hn)
  refine (pe_callS F c.room (glOk hg c.hsc) hm hk hb (E := WE (wxOf ev Xw)) (fun σ => passAt c.tk σ) h (plain3 hp).1 (star_ok q.1) (back_plain q.2)).wk fun σ H Q ⟨W, ρ, S, rel, res⟩ => ⟨W, ρ, S, rel, (Res.bind res).mono fun ds S1 W1 H1 l1 w1 pp vs rv => ?_⟩
  refine ⟨?_, W1, S1, ds, w1, rv, ?_⟩
  · rw [← rv.length]
    exact c.ar x fd ds S1 hfd fun z => by rw [z] at pp; exact pp
  · cases z : C x ds S1 with
    | ok d S' => rw [z] at pp; exact pp
    | err cc S' => rw [z] at pp; exact fun W' H' l w => ⟨cc, rfl, rfl, pp W' H' l w⟩
    | bad => rw [z] at pp; exact pp

/-! ### built-ins -/
theorem bi_step {x : Str} {e : Expr} {es : List Expr} {fs : Ev → Sto → R (List D)} {p pos : Pos} {r : List V → Hp → VK → Prop} (hp : PE X (.Call (.Name x p) (e :: es) [] pos) (tCB r (tTs X.K E Xw fs))) (hr : ∀ vs H Q, rCall X.K x vs H Q → r vs H Q) :
    PE X (.Call (.Name x p) (e :: es) [] pos) (tE X.K E Xw fun ρ S => (fs ρ S).bind fun ds S1 => R.opt (callD x (ds.map (view S1))) S1) := by
  refine hp.wk fun σ H Q ⟨W, ρ, S, rel, res⟩ => ⟨W, ρ, S, rel, (Res.bind res).mono fun ds S1 W1 H1 l1 w1 pp vs rv => hr _ _ _ ?_⟩
  obtain ⟨d, e1, f⟩ := pp.opt
  exact ⟨W1, S1, _, d, w1, rv.sees w1, e1, fun W' H' l w v r => f W' H' l w v r⟩
theorem den_bi {x : Str} {e : Expr} {es : List Expr} {fs : Ev → Sto → R (List D)} {p pos : Pos} (c : Cok X g C ev E N sc Xw k) (hp : plainName x = true) (hg : glB sc x = true) (hb : g.bi x = true) (hbc : biC x = true) (hn : (e :: es).all notStar = true)
    (h : PA X (e :: es) (tTs X.K E Xw fs)) : PE X (.Call (.Name x p) (e :: es) [] pos) (tE X.K E Xw fun ρ S => (fs ρ S).bind fun ds S1 => R.opt (callD x (ds.map (view S1))) S1) := by
  have q := Bool.and_eq_true_iff.mp (show (notStar e && es.all notStar) = true from hn)
  have hG := glOk hg c.hsc
  have hm := c.bis x hb
  have s1 : starEach (e :: es) X.env = (false, eval e X.env) :: starEach es X.env := star_ok q.1
  have s2 : ∀ pos, (backTo pos (starEach es X.env)).any (·.1) = false := fun _ => back_plain q.2
  by_cases h1 : x = "len"
  · subst h1; exact bi_step (pe_callB cb_len hG hm (by decide +kernel) h (by decide) (by decide) s1 (s2 _)) fun _ _ _ z => z
  by_cases h2 : x = "sum"
  · subst h2; exact bi_step (pe_callB (cb_sum c.calm) hG hm (by decide +kernel) h (by decide) (by decide) s1 (s2 _)) fun _ _ _ z => z
  by_cases h3 : x = "tuple"
  · subst h3; exact bi_step (pe_callTy cb_tuple hG hm (by decide +kernel) h (by decide) (by decide) s1 (s2 _)) fun _ _ _ z => z
  by_cases h4 : x = "abs"
  · subst h4; exact bi_step (pe_callB cb_abs hG hm (by decide +kernel) h (by decide) (by decide) s1 (s2 _)) fun _ _ _ z => z
  by_cases h5 : x = "int"
  · subst h5; exact bi_step (pe_callTy cb_int hG hm (by decide +kernel) h (by decide) (by decide) s1 (s2 _)) fun _ _ _ z => z
  by_cases h6 : x = "max"
  · subst h6; exact bi_step (pe_callB (cb_max c.calm) hG hm (by decide +kernel) h (by decide) (by decide) s1 (s2 _)) fun _ _ _ z => z
  by_cases h7 : x = "min"
  · subst h7; exact bi_step (pe_callB (cb_min c.calm) hG hm (by decide +kernel) h (by decide) (by decide) s1 (s2 _)) fun _ _ _ z => z
  simp only [biC, h1, h2, h3, h4, h5, h6, h7] at hbc
  exact absurd hbc (by decide)
/-! ### isinstance -/
theorem isi_types {d : D} {T : Str} {b : Bool} (h : isiD T d = some b) : ∃ Ts, T = Str.ofString Ts ∧ bootBuiltins T = some (.type Ts) ∧ ∀ {W : Wd} {H : Hp} {S : Sto} {v : V}, WS X.K W H S → See X.K W H d v → ∃ t, TyX X.K H v t ∧ PySem.W.kitOne X.K t (.type Ts) = some b := by
  unfold isiD at h
  split at h
  · cases h
  · rename_i hr
    split at h
    · rename_i e; subst e
      refine ⟨"int", rfl, by decide +kernel, fun {W H S v} w r => ?_⟩
      cases d <;> first | (cases r; done) | (cases h; exact ⟨_, tyx w r rfl, kit_ty (by dsimp only [tyN]; decide +kernel)⟩)
    split at h
    · rename_i e; subst e
      refine ⟨"bool", rfl, by decide +kernel, fun {W H S v} w r => ?_⟩
      cases d <;> first | (cases r; done) | (cases h; exact ⟨_, tyx w r rfl, kit_ty (by dsimp only [tyN]; decide +kernel)⟩)
    split at h
    · rename_i e; subst e
      refine ⟨"str", rfl, by decide +kernel, fun {W H S v} w r => ?_⟩
      cases d <;> first | (cases r; done) | (cases h; exact ⟨_, tyx w r rfl, kit_ty (by dsimp only [tyN]; decide +kernel)⟩)
    split at h
    · rename_i e; subst e
      refine ⟨"tuple", rfl, by decide +kernel, fun {W H S v} w r => ?_⟩
      cases d <;> first | (cases r; done) | (cases h; exact ⟨_, tyx w r rfl, kit_ty (by dsimp only [tyN]; decide +kernel)⟩)
    · cases h
theorem isT_boot {T : Str} (h : isT T = true) : ∃ Ts, T = Str.ofString Ts ∧ bootBuiltins T = some (.type Ts) := by
  unfold isT at h
  simp only [Bool.or_eq_true, decide_eq_true_eq] at h
  rcases h with ((h | h) | h) | h
  · subst h; exact ⟨"int", rfl, by decide +kernel⟩
  · subst h; exact ⟨"bool", rfl, by decide +kernel⟩
  · subst h; exact ⟨"str", rfl, by decide +kernel⟩
  · subst h; exact ⟨"tuple", rfl, by decide +kernel⟩
theorem ofString_inj {a b : String} (h : Str.ofString a = Str.ofString b) (ha : bootBuiltins (Str.ofString a) = some (.type a)) (hb : bootBuiltins (Str.ofString b) = some (.type b)) : a = b := by
  rw [h, hb] at ha
  exact (Value.type.inj (Option.some.inj ha)).symm
theorem den_isi {a : Expr} {T : Str} {p q pos : Pos} (c : Cok X g C ev E N sc Xw k) (hg : glB sc "isinstance" = true) (hb : g.bi "isinstance" = true) (hgT : glB sc T = true) (hbT : g.bi T = true) (hpT : plainName T = true) (hT : isT T = true) (hn : notStar a = true) (h : PE X a (tT X.K E Xw fa)) :
    PE X (.Call (.Name "isinstance" p) [a, .Name T q] [] pos) (tE X.K E Xw fun ρ S => (fa ρ S).bind fun d S1 => R.opt ((isiD T (view S1 d)).map D.bl) S1) := by
  obtain ⟨Ts, eT, bT⟩ := isT_boot hT
  obtain ⟨n1, n2, n3⟩ := plain3 hpT
  have hN : PE X (.Name T q) (tC (.ty Ts)) := pe_bltn (v := .ty Ts) (glOk hgT c.hsc) (c.bis T hbT) bT rfl n3 n1
  have hA : PA X [a, .Name T q] (tCons (tT X.K E Xw fa) (tCons (tC (.ty Ts)) tNil)) := pa_cons h (pa_cons hN pa_nil rfl) (star_ok hn)
  refine (pe_callB call_isi (glOk hg c.hsc) (c.bis _ hb) (by decide +kernel) hA (by decide) (by decide) (star_ok hn) rfl).wk fun σ H Q ⟨W, ρ, S, rel, res⟩ => ⟨W, ρ, S, rel, (Res.bind res).mono fun d S1 W1 H1 l1 w1 p v rv => ?_⟩
  obtain ⟨d', e, f⟩ := p.opt
  obtain ⟨b, e1, rfl⟩ := Option.map_eq_some_iff.mp e
  obtain ⟨Ts', eT', bT', hk⟩ := isi_types (X := X) e1
  have es : Ts' = Ts := by
    rw [bT] at bT'
    exact (Value.type.inj (Option.some.inj bT')).symm
  subst es
  obtain ⟨t, ty, kt⟩ := hk w1 (rv.see w1)
  exact ⟨v, .ty Ts', t, .type Ts', b, rfl, .ty _, ty, kt, f W1 H1 w1.refl w1 _ (.bl _)⟩

/-! ### slices -/
variable (X E Xw) in
def tO (f : Ev → Sto → R (Option Int)) : TO := fun σ H Q => ∃ W ρ S, Rel X.K E W H ρ σ S ∧ Res X.K E Xw W H ρ σ (f ρ S) fun o _ W' H' => Q o H'
theorem PO.wk {e : Option Expr} {t t' : TO} (h : PO X e t) (w : ∀ σ H Q, t' σ H Q → t σ H Q) : PO X e t' := ⟨fun pins s σ H Q I q => h.run pins s σ H Q I (w σ H Q q)⟩
theorem den_onone : PO X none (tO X E Xw fun _ S => .ok none S) := PO.wk po_none fun σ H Q ⟨W, ρ, S, rel, res⟩ => res W H rel.ws.refl rel.ws
theorem den_osome {e : Expr} (h : PE X e (tE X.K E Xw fa)) : PO X (some e) (tO X E Xw fun ρ S => (fa ρ S).bind fun d S1 => match d with
    | .int i => .ok (some i) S1
    | _ => .bad) := by
  refine PO.wk (po_some h) fun σ H Q ⟨W, ρ, S, rel, res⟩ => ⟨W, ρ, S, rel, (Res.bind res).mono fun d S1 W1 H1 l1 w1 p v rv => ?_⟩
  cases rv with
  | int i => exact ⟨i, rfl, p W1 H1 w1.refl w1⟩
  | _ => exact False.elim p
theorem den_slice {a : Expr} {lo hi : Option Expr} {fl fh : Ev → Sto → R (Option Int)} {p2 pos : Pos} (ha : PE X a (tT X.K E Xw fa)) (hl : PO X lo (tO X E Xw fl)) (hh : PO X hi (tO X E Xw fh)) :
    PE X (.Subscript a (.Slice lo hi none p2) pos) (tE X.K E Xw fun ρ S => (fa ρ S).bind fun x S1 => (fl ρ S1).bind fun l S2 => (fh ρ S2).bind fun h S3 => R.opt (sliceD (view S3 x) l h) S3) := by
  refine (pe_slice sl_D ha hl hh).wk fun σ H Q ⟨W, ρ, S, rel, res⟩ => ⟨W, ρ, S, rel, (Res.bind res).mono fun d S1 W1 H1 l1 w1 p v rv => ?_⟩
  refine ⟨W1, ρ, S1, rel.step l1 w1, (Res.bind p).mono fun l S2 W2 H2 l2 w2 q => ?_⟩
  refine ⟨W2, ρ, S2, (rel.step l1 w1).step l2 w2, (Res.bind q).mono fun h S3 W3 H3 l3 w3 q3 => ?_⟩
  obtain ⟨z, e, f⟩ := q3.opt
  exact ⟨W3, S3, _, z, w3, ((rv.le w1 l2).le w2 l3).see w3, e, fun W' H' l w v r => f W' H' l w v r⟩
def notSlice : Expr → Bool
  | .Slice _ _ _ _ => false
  | _ => true
theorem plainIx_of {i : Expr} (h : notSlice i = true) : PlainIx i := by
  intro o v
  cases i <;> first | rfl | cases h
end
end Lw
set_option maxHeartbeats 1000000
/-! LwE: targets, what is walked, comprehensions; the evaluator is right for every expression. -/
namespace Lw
open PySem PySem.Spec PyProof.Rows L2

section
variable {K : PySem.W.Frag} {W W' W0 W1 W2 : Wd} {H H' H0 H1 H2 : Hp} {S S' S1 : Sto} {E : Ent} {ρ ρ' : Ev} {σ σ' : L2.St} {a p : Addr} {ds : List D} {d : D} {v : V}
/-- a list that is held alone -/
structure Held (K : PySem.W.Frag) (W : Wd) (H : Hp) (a : Addr) (ds : List D) (vs : List V) : Prop where
  at_ : H a = some (.lst vs)
  reps : Reps K W H ds vs
  nf : ¬ W.Fz a
  ns : ∀ j, j < W.n → W.μ j ≠ a
theorem Held.le {vs : List V} (w : WS K W H S) (l : Le W H W' H') (h : Held K W H a ds vs) : Held K W' H' a ds vs where
  at_ := l.keep a _ h.at_ h.ns
  reps := h.reps.pre (l.pre w)
  nf := fun f => by
    rcases l.fz' a f with q | q
    · exact h.nf q
    · rw [h.at_] at q; cases q
  ns := fun j hj z => by
    by_cases hl : j < W.n
    · exact h.ns j hl (by rw [← l.mu j hl]; exact z)
    · have q := l.new j (Nat.le_of_not_lt hl) hj
      rw [z, h.at_] at q; cases q
theorem own_pre {vs vs' : List V} (h : Held K W H p ds vs) : Pre K W H W (upd H p (.lst vs')) where
  tup := fun c xs q => by
    rcases q with (q | ⟨o, q⟩) | q
    · exact .inl (.inl (by rw [upd_ne (ne_of q h.at_ (fun z => by cases z))]; exact q))
    · exact .inl (.inr ⟨o, by rw [upd_ne (ne_of q h.at_ (fun z => by cases z))]; exact q⟩)
    · exact .inr q
  fz := fun _ f => f
  frz := fun c xs f q => by
    have ne : c ≠ p := fun z => h.nf (by rw [← z]; exact f)
    rcases q with q | ⟨o, q⟩
    · exact .inl (by rw [upd_ne ne]; exact q)
    · exact .inr ⟨o, by rw [upd_ne ne]; exact q⟩
  n := Nat.le_refl _
  mu := fun _ _ => rfl
theorem own_ws {vs vs' : List V} (w : WS K W H S) (h : Held K W H p ds vs) (hl : vs'.length ≤ sizeLine) : WS K W (upd H p (.lst vs')) S where
  len := w.len
  ob := fun i o e => by
    have m := w.ob i o e
    refine m.pre (own_pre h) ?_
    have hi : i < W.n := by rw [← w.len]; exact (List.getElem?_eq_some_iff.mp e).1
    rw [upd_ne (h.ns i hi)]
  inj := w.inj
  nfz := w.nfz
  fz := fun c f => by
    by_cases e : c = p
    · rw [e, upd_same]; exact fun z => by cases z
    · rw [upd_ne e]; exact w.fz c f
  wf := fun c xs q => by
    by_cases e : c = p
    · subst e
      rcases q with q | ⟨o, q⟩
      · rw [upd_same] at q; cases q; exact hl
      · rw [upd_same] at q; cases q
    · rcases q with q | ⟨o, q⟩
      · rw [upd_ne e] at q; exact w.wf c xs (.inl q)
      · rw [upd_ne e] at q; exact w.wf c xs (.inr ⟨o, q⟩)
  wft := fun c xs q => by
    by_cases e : c = p
    · subst e
      rcases q with (q | ⟨o, q⟩) | q
      · rw [upd_same] at q; cases q
      · rw [upd_same] at q; cases q
      · exact w.wft c xs (.inr q)
    · rcases q with (q | ⟨o, q⟩) | q
      · rw [upd_ne e] at q; exact w.wft c xs (.inl (.inl q))
      · rw [upd_ne e] at q; exact w.wft c xs (.inl (.inr ⟨o, q⟩))
      · exact w.wft c xs (.inr q)
theorem le_own {o : HO} (l : Le W0 H0 W H) (h0 : H0 p = none) : Le W0 H0 W (upd H p o) where
  keep := fun b u e h => by rw [upd_ne (ne_of_none e h0)]; exact l.keep b u e h
  sto := fun i hi => by
    by_cases e : W0.μ i = p
    · rw [e, upd_same]; exact fun z => by cases z
    · rw [upd_ne e]; exact l.sto i hi
  n := l.n
  mu := l.mu
  fz := l.fz
  fz' := l.fz'
  new := l.new
theorem le_add (l : Le W0 H0 W H) (h0 : H0 p = none) : Le W0 H0 (W.add p) H :=
  ⟨l.keep, l.sto, l.n, l.mu, fun a h => .inl (l.fz a h), fun a h => by
    rcases h with h | h
    · exact l.fz' a h
    · rw [h]; exact .inr h0, l.new⟩
theorem pre_add : Pre K W H (W.add p) H := ⟨fun _ _ h => h, fun _ h => .inl h, fun _ _ _ h => h, Nat.le_refl _, fun _ _ => rfl⟩
theorem ws_add (w : WS K W H S) (hp : H p ≠ none) (ns : ∀ j, j < W.n → W.μ j ≠ p) : WS K (W.add p) H S :=
  ⟨w.len, fun i o e => (w.ob i o e).pre pre_add rfl, w.inj, fun i hi f => by
    rcases f with f | f
    · exact w.nfz i hi f
    · exact ns i hi f, fun a f => by
    rcases f with f | f
    · exact w.fz a f
    · rw [f]; exact hp, w.wf, w.wft⟩

/-! ### slots -/
theorem getSl_set {i j : Nat} {s : Sl} (hi : i < ρ.length) : getSl (ρ.set i s) j = if j = i then s else getSl ρ j := by
  unfold getSl
  rw [List.getD_eq_getElem?_getD, List.getD_eq_getElem?_getD]
  by_cases e : j = i
  · subst e
    rw [List.getElem?_set_self hi, if_pos rfl] <;> rfl
  · rw [List.getElem?_set_ne (Ne.symm e), if_neg e]
theorem Rel.set (r : Rel K E W H ρ σ S) {i : Nat} (hi : i < ρ.length) (rd : Rep K W H d v) : Rel K E W H (ρ.set i (.val d)) (σ.set i (some v)) S where
  ws := r.ws
  le := r.le
  len := by rw [List.length_set, List.length_set]; exact r.len
  val := fun j e h => by
    rw [getSl_set hi] at h
    by_cases q : j = i
    · rw [if_pos q] at h; cases h; subst q
      exact ⟨v, List.getElem?_set_self (by rw [← r.len]; exact hi), rd⟩
    · rw [if_neg q] at h
      rw [List.getElem?_set_ne (Ne.symm q)]
      exact r.val j e h
  own := fun j es h => by
    rw [getSl_set hi] at h
    by_cases q : j = i
    · rw [if_pos q] at h; cases h
    · rw [if_neg q] at h
      rw [List.getElem?_set_ne (Ne.symm q)]
      exact r.own j es h
  apart := fun j l es fs b h1 h2 h3 h4 => by
    rw [getSl_set hi] at h1 h2
    by_cases q : j = i
    · rw [if_pos q] at h1; cases h1
    · by_cases q2 : l = i
      · rw [if_pos q2] at h2; cases h2
      · rw [if_neg q] at h1; rw [if_neg q2] at h2
        rw [List.getElem?_set_ne (Ne.symm q)] at h3; rw [List.getElem?_set_ne (Ne.symm q2)] at h4
        exact r.apart j l es fs b h1 h2 h3 h4
theorem wipeE_length (ρ : Ev) : ∀ vs : List Nat, (wipeE ρ vs).length = ρ.length
  | [] => rfl
  | v :: vs => by unfold wipeE; rw [List.length_set, wipeE_length ρ vs]
theorem getSl_wipe {i : Nat} {s : Sl} (ne : s ≠ .un) : ∀ {vs : List Nat}, getSl (wipeE ρ vs) i = s → getSl ρ i = s ∧ i ∉ vs
  | [], h => ⟨h, by simp⟩
  | v :: vs, h => by
    unfold wipeE at h
    by_cases hv : v < (wipeE ρ vs).length
    · rw [getSl_set hv] at h
      by_cases q : i = v
      · rw [if_pos q] at h; exact absurd h.symm ne
      · rw [if_neg q] at h
        obtain ⟨h1, h2⟩ := getSl_wipe ne h
        exact ⟨h1, by simp only [List.mem_cons, not_or]; exact ⟨q, h2⟩⟩
    · rw [List.set_eq_of_length_le (Nat.le_of_not_lt hv)] at h
      obtain ⟨h1, h2⟩ := getSl_wipe ne h
      have q0 : ¬ i = v := fun q => by
        have := getSl_lt h1 ne
        rw [wipeE_length] at hv
        rw [q] at this
        exact hv this
      exact ⟨h1, by simp only [List.mem_cons, not_or]; exact ⟨q0, h2⟩⟩
theorem Rel.wipe (r : Rel K E W H ρ σ S) (vs : List Nat) : Rel K E W H (wipeE ρ vs) (L2.wipe σ vs) S where
  ws := r.ws
  le := r.le
  len := by rw [wipeE_length, L2.wipe_length]; exact r.len
  val := fun j e h => by
    obtain ⟨h1, h2⟩ := getSl_wipe (fun z => by cases z) h
    rw [wipe_out h2]
    exact r.val j e h1
  own := fun j es h => by
    obtain ⟨h1, h2⟩ := getSl_wipe (fun z => by cases z) h
    rw [wipe_out h2]
    exact r.own j es h1
  apart := fun j l es fs b h1 h2 h3 h4 => by
    obtain ⟨p1, q1⟩ := getSl_wipe (fun z => by cases z) h1
    obtain ⟨p2, q2⟩ := getSl_wipe (fun z => by cases z) h2
    rw [wipe_out q1] at h3; rw [wipe_out q2] at h4
    exact r.apart j l es fs b p1 p2 h3 h4
theorem wipe_in {i : Nat} : ∀ {vs : List Nat} {σ : L2.St}, i ∈ vs → (L2.wipe σ vs)[i]? = if i < σ.length then some none else none
  | [], _, h => by simp at h
  | v :: vs, σ, h => by
    unfold L2.wipe
    by_cases e : v = i
    · subst e
      by_cases hl : v < σ.length
      · rw [List.getElem?_set_self (by rw [L2.wipe_length]; exact hl), if_pos hl]
      · rw [List.getElem?_eq_none (by rw [List.length_set, L2.wipe_length]; omega), if_neg hl]
    · rw [List.getElem?_set_ne e]
      rcases List.mem_cons.mp h with q | q
      · exact absurd q.symm e
      · exact wipe_in q
theorem wipe_eq {vs : List Nat} {ix : List Nat} (hix : ∀ i ∈ ix, i ∈ vs) (hl : σ'.length = (L2.wipe σ vs).length) (out : ∀ j, j ∉ ix → σ'[j]? = (L2.wipe σ vs)[j]?) : L2.wipe σ' vs = L2.wipe σ vs := by
  apply List.ext_getElem?
  intro j
  have hl' : σ'.length = σ.length := by rw [hl, L2.wipe_length]
  by_cases h : j ∈ vs
  · rw [wipe_in h, wipe_in h, hl']
  · rw [wipe_out h, wipe_out h, out j fun q => h (hix j q), wipe_out h]

/-! ### targets -/
def tG (K : PySem.W.Frag) (E : Ent) (f : D → Ev → Option Ev) (ix : List Nat) : TG := fun v σ H Q => ∃ W ρ S d ρ', Rel K E W H ρ σ S ∧ Rep K W H d v ∧ f d ρ = some ρ' ∧
  ∀ σ', Rel K E W H ρ' σ' S → σ'.length = σ.length → (∀ j, j ∉ ix → σ'[j]? = σ[j]?) → Q σ' H
def tGs (K : PySem.W.Frag) (E : Ent) (f : List D → Ev → Option Ev) (ix : List Nat) : TGs := fun vs σ H Q => ∃ W ρ S ds ρ', Rel K E W H ρ σ S ∧ Reps K W H ds vs ∧ f ds ρ = some ρ' ∧
  ∀ σ', Rel K E W H ρ' σ' S → σ'.length = σ.length → (∀ j, j ∉ ix → σ'[j]? = σ[j]?) → Q σ' H
end

/-- what the place of a target needs -/
structure Tok' (X : Cx) (N : List Str) (sct : Scope) : Prop where
  hN : X.N = N
  nd : N.Nodup
  calm : X.calm = true
  loc : ∀ x, locB sct x = true → Loc X.env.scope x ∧ (X.fn x = true ∨ X.env.scope.names.lookup x = some .local)
section
variable {X : Cx} {N : List Str} {sct : Scope} {E : Ent}
theorem _root_.L2.PG.wk {e : Expr} {t t' : TG} (h : PG X e t) (w : ∀ v σ H Q, t' v σ H Q → t v σ H Q) : PG X e t' := ⟨fun pins s σ H v u Q I r q => h.run pins s σ H v u Q I r (w v σ H Q q)⟩
theorem _root_.L2.PGs.wk {e : List Expr} {t t' : TGs} (h : PGs X e t) (w : ∀ v σ H Q, t' v σ H Q → t v σ H Q) : PGs X e t' := ⟨fun pins s σ H v u Q I r q => h.run pins s σ H v u Q I r (w v σ H Q q)⟩
theorem each_len : ∀ {es : List Expr} {env : Env}, es.all notStar = true → (assignEach es env).length = es.length ∧ (assignEach es env).findIdx? (·.1) = none
  | [], _, _ => ⟨rfl, rfl⟩
  | e :: es, env, h => by
    have q := Bool.and_eq_true_iff.mp (show (notStar e && es.all notStar) = true from h)
    have e1 : assignEach (e :: es) env = (false, assign e env) :: assignEach es env := by cases e <;> first | rfl | (cases q.1)
    obtain ⟨i1, i2⟩ := each_len (env := env) q.2
    rw [e1]
    refine ⟨by rw [List.length_cons, List.length_cons, i1], ?_⟩
    rw [List.findIdx?_cons, i2] <;> rfl
theorem each_cons {e : Expr} {es : List Expr} {env : Env} (h : notStar e = true) : (assignEach (e :: es) env).map (·.2) = assign e env :: (assignEach es env).map (·.2) := by cases e <;> first | rfl | (cases h)
theorem asg_star {N : List Str} {sct : Scope} : ∀ {n : Nat} {es : List Expr} {ds : List D} {ρ ρ' : Ev}, asgTs N sct n es ds ρ = some ρ' → es.all notStar = true ∧ es.length = ds.length
  | 0, _, _, _, _, h => by cases h
  | n + 1, [], [], _, _, _ => ⟨rfl, rfl⟩
  | n + 1, [], _ :: _, _, _, h => by cases h
  | n + 1, _ :: _, [], _, _, h => by cases h
  | n + 1, e :: es, d :: ds, ρ, ρ', h => by
    have h2 : (asgT N sct n e d ρ).bind (fun ρ1 => asgTs N sct n es ds ρ1) = some ρ' := h
    obtain ⟨ρ1, h3, h4⟩ := Option.bind_eq_some_iff.mp h2
    obtain ⟨q1, q2⟩ := asg_star h4
    refine ⟨?_, by rw [List.length_cons, List.length_cons, q2]⟩
    show (notStar e && es.all notStar) = true
    rw [q1, Bool.and_true]
    cases e <;> first | rfl | (cases n <;> cases h3)
theorem tgt_ok (T : Tok' X N sct) : ∀ n : Nat, (∀ e, PG X e (tG X.K E (asgT N sct n e) (tgtIx N n e))) ∧ ∀ es, es.all notStar = true → PGs X es (tGs X.K E (asgTs N sct n es) (tgtIxs N n es))
  | 0 => ⟨fun e => ⟨fun pins s σ H v u Q I r ⟨_, _, _, _, _, _, _, z, _⟩ => by cases z⟩, fun es _ => ⟨fun pins s σ H v u Q I r ⟨_, _, _, _, _, _, _, z, _⟩ => by cases z⟩⟩
  | n + 1 => by
    obtain ⟨ih1, ih2⟩ := tgt_ok T n
    refine ⟨fun e => ?_, fun es hs => ?_⟩
    · have bad : (∀ d ρ, asgT N sct (n + 1) e d ρ = none) → PG X e (tG X.K E (asgT N sct (n + 1) e) (tgtIx N (n + 1) e)) := fun hb => ⟨fun pins s σ H v u Q I r ⟨_, _, _, d, _, _, _, z, _⟩ => by rw [hb] at z; cases z⟩
      cases e with
      | Name x pos =>
        refine ⟨fun pins s σ H v u Q I r ⟨W, ρ, S, d, ρ', rel, rd, z, q⟩ => ?_⟩
        have z2 : (if locB sct x && decide (ixOf N x < ρ.length) then some (ρ.set (ixOf N x) (.val d)) else none) = some ρ' := z
        split at z2
        · rename_i hc
          cases z2
          obtain ⟨h1, h2⟩ := Bool.and_eq_true_iff.mp hc
          have hi : ixOf N x < ρ.length := of_decide_eq_true h2
          have hn : ixOf N x < N.length := by
            have l1 := rel.len
            have l2 := I.len
            rw [T.hN] at l2
            omega
          obtain ⟨hl, hf⟩ := T.loc x h1
          refine (pg_name (i := ixOf N x) (by rw [T.hN]; exact T.nd) (by rw [T.hN]; exact ix_ok hn) hl hf).run pins s σ H v u Q I r ?_
          exact q _ (rel.set hi rd) (by rw [List.length_set]) fun j hj => List.getElem?_set_ne fun z => hj (by rw [← z]; exact List.mem_singleton.mpr rfl)
        · cases z2
      | Tuple es kk pos =>
        by_cases hs : es.all notStar = true
        · obtain ⟨l1, l2⟩ := each_len (env := X.env) hs
          refine (pg_tup (k := kk) (pos := pos) T.calm (ih2 es hs) l1 l2).wk fun v σ H Q ⟨W, ρ, S, d, ρ', rel, rd, z, q⟩ => ?_
          cases d with
          | tup ds =>
            cases rd with
            | tup h r =>
              refine ⟨_, _, rfl, h, ?_, W, ρ, S, ds, ρ', rel, r, z, q⟩
              rw [← r.length]
              exact (asg_star (show asgTs N sct n es ds ρ = some ρ' from z)).2.symm
          | _ => cases z
        · refine bad fun d ρ => ?_
          cases d with
          | tup ds =>
            cases z : asgTs N sct n es ds ρ with
            | none => exact z
            | some ρ' => exact absurd (asg_star z).1 hs
          | _ => rfl
      | _ => exact bad fun _ _ => rfl
    · cases es with
      | nil =>
        refine pgs_nil.wk fun vs σ H Q ⟨W, ρ, S, ds, ρ', rel, rd, z, q⟩ => ?_
        cases rd with
        | nil =>
          have z2 : some ρ = some ρ' := z
          cases z2
          exact ⟨rfl, q σ rel rfl fun _ _ => rfl⟩
        | cons _ _ => cases z
      | cons e es =>
        have hq := Bool.and_eq_true_iff.mp (show (notStar e && es.all notStar) = true from hs)
        refine (pgs_cons (ih1 e) (ih2 es hq.2) (each_cons hq.1)).wk fun vs σ H Q ⟨W, ρ, S, ds, ρ', rel, rd, z, q⟩ => ?_
        cases rd with
        | nil => cases z
        | @cons d ds v vs r rs =>
          have z2 : (asgT N sct n e d ρ).bind (fun ρ1 => asgTs N sct n es ds ρ1) = some ρ' := z
          obtain ⟨ρ1, h3, h4⟩ := Option.bind_eq_some_iff.mp z2
          refine ⟨v, vs, rfl, W, ρ, S, d, ρ1, rel, r, h3, fun σ1 rel1 len1 out1 => ⟨W, ρ1, S, ds, ρ', rel1, rs, h4, fun σ2 rel2 len2 out2 => q σ2 rel2 (len2.trans len1) fun j hj => ?_⟩⟩
          have hj2 : j ∉ tgtIx N n e ++ tgtIxs N n es := hj
          rw [List.mem_append, not_or] at hj2
          rw [out2 j hj2.2, out1 j hj2.1]
end

/-! ### what is walked -/
section
variable {K : PySem.W.Frag} {W : Wd} {H : Hp} {a b : Addr} {ds es : List D} {vs us : List V}
theorem walk_tup (h : SqT K H a vs) (r : Reps K W H ds vs) : Walk K W H ds (Itt K a) := fun W1 H1 S1 P w =>
  ⟨fun i d e => by
    obtain ⟨v, hv, rv⟩ := r.get e
    have h1 := P.tup a vs h
    exact ⟨⟨vs, v, h1, hv⟩, fun x H2 ⟨e2, q⟩ => by
      subst e2
      have := q vs h1
      rw [hv] at this
      cases this
      exact ⟨W1, w.refl, w, rv.pre P⟩⟩, ⟨vs, P.tup a vs h, by rw [r.length]; exact Nat.le_refl _⟩⟩
theorem walk_lst (f : W.Fz a) (h : Rd H a (.lst vs)) (r : Reps K W H ds vs) : Walk K W H ds (Itl K a) := fun W1 H1 S1 P w =>
  ⟨fun i d e => by
    obtain ⟨v, hv, rv⟩ := r.get e
    have h1 : SqL K H1 a vs := .inl (P.frz a vs f h)
    exact ⟨⟨vs, v, h1, hv⟩, fun x H2 ⟨e2, q⟩ => by
      subst e2
      have := q vs h1
      rw [hv] at this
      cases this
      exact ⟨W1, w.refl, w, rv.pre P⟩⟩, ⟨vs, .inl (P.frz a vs f h), by rw [r.length]; exact Nat.le_refl _⟩⟩
theorem walk_range {lo : Int} {n : Nat} : Walk K W H ((List.range n).map fun (k : Nat) => D.int (lo + (k : Int))) (Itr lo n) := fun W1 H1 S1 P w =>
  ⟨fun i d e => by
    rw [List.getElem?_map] at e
    cases q : (List.range n)[i]? with
    | none => rw [q] at e; cases e
    | some k =>
      rw [q] at e
      cases e
      obtain ⟨hi, hk⟩ := List.getElem?_eq_some_iff.mp q
      rw [List.getElem_range] at hk
      rw [List.length_range] at hi
      subst hk
      exact ⟨hi, fun x H2 ⟨e2, e3⟩ => by
        subst e2 e3
        exact ⟨W1, w.refl, w, .int _⟩⟩, by
    show n ≤ _
    rw [List.length_map, List.length_range]
    exact Nat.le_refl _⟩
theorem walk_zip (h : SqT K H a vs) (r : Reps K W H ds vs) (h' : SqT K H b us) (r' : Reps K W H es us) : Walk K W H ((ds.zip es).map fun p => D.tup [p.1, p.2]) (RZ.ItzT K a b) := fun W1 H1 S1 P w => by
  have h1 := P.tup a vs h
  have h2 := P.tup b us h'
  refine ⟨fun i d e => ?_, ⟨vs, us, h1, h2, ?_⟩⟩
  · rw [List.getElem?_map] at e
    cases q : (ds.zip es)[i]? with
    | none => rw [q] at e; cases e
    | some p =>
      rw [q] at e
      cases e
      obtain ⟨q1, q2⟩ := List.getElem?_zip_eq_some.mp q
      obtain ⟨v, hv, rv⟩ := r.get q1
      obtain ⟨u, hu, ru⟩ := r'.get q2
      refine ⟨⟨vs, us, v, u, h1, h2, hv, hu⟩, fun x H2 ⟨T, x1, y1, e1, e2, e3, e4, e5⟩ => ?_⟩
      subst e1 e3
      have f1 := e4 vs h1
      rw [hv] at f1; cases f1
      have f2 := e5 us h2
      rw [hu] at f2; cases f2
      have L := le_new (K := K) w e2 (.tup [v, u]) W1 rfl rfl (fun _ h => h) (fun _ h => .inl h)
      refine ⟨W1, L, ws_new w e2 (.tup [v, u]) W1 rfl rfl (fun _ h => h) (fun _ h => .inl h) (fun xs e => by cases e) (fun xs e => by cases e; rw [size_line]; exact (by decide : 2 ≤ LINE)) (fun _ _ e => by cases e), ?_⟩
      exact .tup (SqT.of upd_same) (.cons ((rv.pre P).pre (L.pre w)) (.cons ((ru.pre P).pre (L.pre w)) .nil))
  · rw [List.length_map, List.length_zip, r.length, r'.length]
    omega
end

section
variable {X : Cx} {g : G} {C : Call} {ev : Str → Value} {E : Ent} {N : List Str} {sc : Scope} {Xw : Str → L2.St → Hp → Prop} {k : Nat} {fa fb : Ev → Sto → R D} {tg : Expr}
/-- a list or a tuple that is walked -/
theorem pi_seq {l : Expr} {tl : TE} (hl : PE X l tl) : PI X tg l (fun σ H R => tl σ H fun x H1 => ∃ a, x = .ref a ∧ ((∃ xs, SqL X.K H1 a xs) ∧ R (Itl X.K a) H1 ∨ (∃ xs, SqT X.K H1 a xs) ∧ R (Itt X.K a) H1)) := by
  refine ⟨fun pins s σ H R I h => ?_⟩
  refine thn (hl.run pins s σ H _ I h) fun v s1 ⟨x, H1, I1, r1, q1⟩ => ?_
  obtain ⟨a, e, q1⟩ := q1
  subst e
  cases r1
  have fr : ∀ b ∈ [s1.heap.objs.size], FpOk X pins H1 b := fun b hb => by
    have e : b = s1.heap.objs.size := by simpa using hb
    subst e
    exact I1.fpOk (Nat.le_refl _) (I1.hok.fresh (Nat.le_refl _))
  rcases q1 with ⟨⟨xs, hq⟩, q⟩ | ⟨⟨xs, hq⟩, q⟩
  · obtain ⟨its, rv, p, hz⟩ := I1.list hq
    refine wpAny_pyIter_list p.isList ?_
    exact ⟨s1.heap.objs.size, [s1.heap.objs.size], _, _, H1, rfl, I1.kept (t' := s1.toks) fun b o e => Heap.get?_push_of_some _ e, turn_list a _, ⟨_, Heap.get?_push_size _ rfl, rfl, rfl⟩, fr, q⟩
  · obtain ⟨its, rv, p, hz⟩ := I1.tuple hq
    refine wpAny_pyIter_tuple (show s1.heap.IsTuple a its.toArray from p) ?_
    exact ⟨s1.heap.objs.size, [s1.heap.objs.size], _, _, H1, rfl, I1.kept (t' := s1.toks) fun b o e => Heap.get?_push_of_some _ e, turn_tuple a _, ⟨_, Heap.get?_push_size _ rfl, rfl, rfl⟩, fr, q⟩
theorem den_seq {l : Expr} (h : PE X l (tE X.K E Xw fa)) : PI X tg l (tI X.K E Xw fun ρ S => (fa ρ S).bind fun d S1 => R.opt (itemsD d) S1) := by
  refine (pi_seq h).wk fun σ H Q ⟨W, ρ, S, rel, res⟩ => ⟨W, ρ, S, rel, (Res.bind res).mono fun d S1 W1 H1 l1 w1 p v rv => ?_⟩
  obtain ⟨ds, e, f⟩ := p.opt
  have f1 := f W1 H1 w1.refl w1
  cases rv with
  | tup h r => cases e; exact ⟨_, rfl, .inr ⟨⟨_, h⟩, f1 _ (walk_tup h r)⟩⟩
  | lst fz h r => cases e; exact ⟨_, rfl, .inl ⟨⟨_, .inl h⟩, f1 _ (walk_lst fz h r)⟩⟩
  | _ => cases e
theorem den_range1 {a : Expr} {fs : Ev → Sto → R (List D)} {p pos : Pos} (c : Cok X g C ev E N sc Xw k) (hg : glB sc "range" = true) (hb : g.bi "range" = true) (hn : notStar a = true) (h : PA X [a] (tA X.K E Xw fs)) :
    PI X tg (.Call (.Name "range" p) [a] [] pos) (tI X.K E Xw fun ρ S => (fs ρ S).bind rangeA1) := by
  refine (pi_range1 (glOk hg c.hsc) (c.bis _ hb) h (by rw [star_ok hn] <;> rfl)).wk fun σ H Q ⟨W, ρ, S, rel, res⟩ => ⟨W, ρ, S, rel, (Res.bind res).mono fun ds S1 W1 H1 l1 w1 pp vs rv => ?_⟩
  cases rv with
  | nil => exact False.elim pp
  | @cons d ds v vs r rs =>
    cases rs with
    | nil =>
      cases r with
      | int j =>
        obtain ⟨is, e, f⟩ := Res.opt (show Res X.K E Xw W1 H1 ρ σ (R.opt (rangeD 0 j) S1) _ from pp)
        unfold rangeD at e
        split at e
        · rename_i hc
          cases e
          refine ⟨j, rfl, hc.2.2.1, hc.2.2.2.1, ?_⟩
          have e0 : (j - 0).toNat = j.toNat := by rw [Int.sub_zero]
          have q := f W1 H1 w1.refl w1 (Itr 0 j.toNat)
          rw [e0] at q
          exact q walk_range
        · cases e
      | _ => exact False.elim pp
    | cons _ _ => cases d <;> exact False.elim pp
theorem den_range2 {a b : Expr} {fs : Ev → Sto → R (List D)} {p pos : Pos} (c : Cok X g C ev E N sc Xw k) (hg : glB sc "range" = true) (hb : g.bi "range" = true) (hn : notStar a = true) (hn2 : notStar b = true) (h : PA X [a, b] (tA X.K E Xw fs)) :
    PI X tg (.Call (.Name "range" p) [a, b] [] pos) (tI X.K E Xw fun ρ S => (fs ρ S).bind rangeA2) := by
  refine (pi_range2 (glOk hg c.hsc) (c.bis _ hb) h (by rw [star_ok hn, star_ok hn2] <;> rfl) (by rw [star_ok hn2] <;> rfl)).wk fun σ H Q ⟨W, ρ, S, rel, res⟩ => ⟨W, ρ, S, rel, (Res.bind res).mono fun ds S1 W1 H1 l1 w1 pp vs rv => ?_⟩
  cases rv with
  | nil => exact False.elim pp
  | @cons d ds v vs r rs =>
    cases rs with
    | nil => cases d <;> exact False.elim pp
    | @cons d2 ds v2 vs r2 rs =>
      cases rs with
      | cons _ _ => cases d <;> cases d2 <;> exact False.elim pp
      | nil =>
        cases r with
        | int i =>
          cases r2 with
          | int j =>
            obtain ⟨is, e, f⟩ := Res.opt (show Res X.K E Xw W1 H1 ρ σ (R.opt (rangeD i j) S1) _ from pp)
            unfold rangeD at e
            split at e
            · rename_i hc
              cases e
              exact ⟨i, j, rfl, ⟨hc.1, hc.2.1, hc.2.2.1, hc.2.2.2.1⟩, f W1 H1 w1.refl w1 _ walk_range⟩
            · cases e
          | _ => exact False.elim pp
        | _ => exact False.elim pp
theorem den_zip {a b : Expr} {elts : List Expr} {kk : Nat} {tpos : Pos} {fs : Ev → Sto → R (List D)} {p pos : Pos} (c : Cok X g C ev E N sc Xw k) (hg : glB sc "zip" = true) (hb : g.bi "zip" = true) (hn : notStar a = true) (hn2 : notStar b = true) (h : PA X [a, b] (tA X.K E Xw fs)) :
    PI X (.Tuple elts kk tpos) (.Call (.Name "zip" p) [a, b] [] pos) (tI X.K E Xw fun ρ S => (fs ρ S).bind zipA) := by
  refine (RZ.pi_zipA (glOk hg c.hsc) (c.bis _ hb) h (star_ok hn) (by rw [star_ok hn2] <;> rfl)).wk fun σ H Q ⟨W, ρ, S, rel, res⟩ => ⟨W, ρ, S, rel, (Res.bind res).mono fun ds S1 W1 H1 l1 w1 pp vs rv => ?_⟩
  cases rv with
  | nil => exact False.elim pp
  | @cons d ds v vs r rs =>
    cases rs with
    | nil => exact False.elim pp
    | @cons d2 ds v2 vs r2 rs =>
      cases rs with
      | cons _ _ => exact False.elim pp
      | nil =>
        obtain ⟨is, e, f⟩ := Res.opt (show Res X.K E Xw W1 H1 ρ σ (R.opt (zipD d d2) S1) _ from pp)
        cases r with
        | tup h1 q1 =>
          cases r2 with
          | tup h2 q2 =>
            cases e
            exact ⟨_, _, _, _, rfl, .inr ⟨h1, h2, f W1 H1 w1.refl w1 _ (walk_zip h1 q1 h2 q2)⟩⟩
          | _ => cases e
        | _ => cases e

/-! ### comprehensions -/
theorem den_ifs0 : PTs X [] (tBl X.K E Xw fun _ S => .ok true S) := ⟨fun pins s σ H Q I ⟨W, ρ, S, rel, res⟩ => pts_nil.run pins s σ H Q I (res W H rel.ws.refl rel.ws)⟩
theorem den_ifs1 {c : Expr} {t : TT} (h : PT X c t) : PTs X [c] t := pts_one h
theorem lc_red {fi : Ev → Sto → R (List D)} {ftg : D → Ev → Option Ev} {fc : Ev → Sto → R Bool} {fe : Ev → Sto → R D} {own : List (Str × Nat)} {ix : List Nat} (hix : ∀ i ∈ ix, i ∈ own.map (·.2))
    {σ : L2.St} {H : Hp} {Q : VK} (h : tE X.K E Xw (fun ρ S => (fi ρ S).bind fun ds S1 => if ds.length ≤ LINE then
            (compL (fun d S2 => lcStep fc fe S2 (ftg d (wipeE ρ (own.map (·.2))))) ds [] S1).bind fun ys S5 => .ok (.lst ys) S5 else .bad) σ H Q) :
    tLc (tI X.K E Xw fi) (tG X.K E ftg ix) (tBl X.K E (fun _ _ _ => False) fc) (tE X.K E (fun _ _ _ => False) fe) (own.map (·.2)) σ H Q := by
  obtain ⟨W, ρ, S, rel, res⟩ := h
  refine ⟨W, ρ, S, rel, (Res.bind res).mono fun ds S1 W1 H1 l1 w1 p J wk D hD => ?_⟩
  have rel1 := rel.step l1 w1
  split at p
  · rename_i hz
    generalize hstep : (fun (d : Lw.D) (S2 : Sto) => lcStep fc fe S2 (ftg d (wipeE ρ (own.map (·.2))))) = step at p
    refine ⟨fun i m H' => m = ds.length - i ∧ i ≤ ds.length ∧ ∃ W' S' acc vacc, Le W1 H1 W' H' ∧ WS X.K W' H' S' ∧ Held X.K W' H' D acc vacc ∧ acc.length ≤ i ∧
      Res X.K E Xw W1 H1 ρ σ ((compL step (ds.drop i) acc S').bind fun ys S5 => R.ok (Lw.D.lst ys) S5) (fun d _ W' H' => ∀ v, Rep X.K W' H' d v → Q v H'), ⟨ds.length, by omega, Nat.zero_le _, W1, S1, [], [], ?_, ?_, ⟨upd_same, .nil, fun f => w1.fz D f hD, fun j hj z => w1.some hj (by rw [z]; exact hD)⟩, Nat.le_refl _, p⟩, ?_⟩
    · exact le_new (K := X.K) w1 hD (.lst []) W1 rfl rfl (fun _ h => h) (fun _ h => .inl h)
    · exact ws_new w1 hD (.lst []) W1 rfl rfl (fun _ h => h) (fun _ h => .inl h) (fun xs e => by cases e; exact Nat.zero_le _) (fun xs e => by cases e) (fun _ _ e => by cases e)
    · rintro i m H' ⟨rfl, hile, W', S', acc, vacc, l, w, hd, hlen, r⟩
      obtain ⟨item, stop⟩ := wk W' H' S' (l.pre w1) w
      by_cases hlt : i < ds.length
      · obtain ⟨go, yl⟩ := item i ds[i] (List.getElem?_eq_getElem hlt)
        refine .inr ⟨go, fun H'' => i + 1 ≤ ds.length ∧ ∃ W' S' acc vacc, Le W1 H1 W' H'' ∧ WS X.K W' H'' S' ∧ Held X.K W' H'' D acc vacc ∧ acc.length ≤ i + 1 ∧
          Res X.K E Xw W1 H1 ρ σ ((compL step (ds.drop (i + 1)) acc S').bind fun ys S5 => R.ok (Lw.D.lst ys) S5) (fun d _ W' H' => ∀ v, Rep X.K W' H' d v → Q v H'), fun H'' h => ⟨ds.length - (i + 1), by omega, rfl, h⟩, fun x H2 y => ?_⟩
        obtain ⟨W2, l2, w2, rx⟩ := yl x H2 y
        have hd2 := hd.le w l2
        have rel2 := (rel1.step (l.trans l2) w2).wipe (own.map (·.2))
        rw [List.drop_eq_getElem_cons hlt] at r
        have r2 : Res X.K E Xw W1 H1 ρ σ (((step ds[i] S').bind fun o S1 => match o with
          | some y => compL step (ds.drop (i + 1)) (acc ++ [y]) S1
          | none => compL step (ds.drop (i + 1)) acc S1).bind fun ys S5 => R.ok (Lw.D.lst ys) S5) (fun d _ W' H' => ∀ v, Rep X.K W' H' d v → Q v H') := r
        rw [← hstep] at r2
        dsimp only at r2
        cases hf : ftg ds[i] (wipeE ρ (own.map (·.2))) with
        | none => rw [hf] at r2; exact False.elim r2
        | some ρ1 =>
          rw [hf] at r2
          rw [show lcStep fc fe S' (some ρ1) = ((fc ρ1 S').noe.bind fun t S3 => if t then (fe ρ1 S3).noe.bind fun y S4 => R.ok (some y) S4 else R.ok none S3) from rfl] at r2
          refine ⟨W2, _, S', ds[i], ρ1, rel2, rx, hf, fun σ2 relx len2 out2 => ⟨wipe_eq hix len2 out2, W2, ρ1, S', relx, ?_⟩⟩
          cases hc : fc ρ1 S' with
          | bad => rw [hc] at r2; exact False.elim r2
          | err cc S3 => rw [hc] at r2; exact False.elim r2
          | ok t S3 =>
            rw [hc] at r2
            intro W3 H3 l3 w3
            have hd3 := hd2.le w2 l3
            cases t with
            | false =>
              refine iteF ?_
              have r3 : Res X.K E Xw W1 H1 ρ σ ((compL step (ds.drop (i + 1)) acc S3).bind fun ys S5 => R.ok (Lw.D.lst ys) S5) (fun d _ W' H' => ∀ v, Rep X.K W' H' d v → Q v H') := by rw [← hstep]; exact r2
              exact ⟨hlt, W3, S3, acc, vacc, (l.trans l2).trans l3, w3, hd3, by omega, r3⟩
            | true =>
              refine iteT ?_
              refine ⟨W3, ρ1, S3, relx.step l3 w3, ?_⟩
              have r3 : Res X.K E Xw W1 H1 ρ σ ((((fe ρ1 S3).noe.bind fun y S4 => .ok (some y) S4).bind fun o S1 => match o with
                | some y => compL step (ds.drop (i + 1)) (acc ++ [y]) S1
                | none => compL step (ds.drop (i + 1)) acc S1).bind fun ys S5 => R.ok (Lw.D.lst ys) S5) (fun d _ W' H' => ∀ v, Rep X.K W' H' d v → Q v H') := by rw [← hstep]; exact r2
              cases hee : fe ρ1 S3 with
              | bad => rw [hee] at r3; exact False.elim r3
              | err cc S4 => rw [hee] at r3; exact False.elim r3
              | ok y S4 =>
                rw [hee] at r3
                intro W4 H4 l4 w4 v rv
                have hd4 := hd3.le w3 l4
                have lv : vacc.length ≤ i := by rw [← hd4.reps.length]; exact hlen
                have lz : vacc.length < sizeLine := by rw [size_line]; omega
                have lz2 : (vacc ++ [v]).length ≤ sizeLine := by rw [List.length_append]; exact lz
                refine ⟨vacc, hd4.at_, lz, hlt, W4, S4, acc ++ [y], vacc ++ [v], le_own (((l.trans l2).trans l3).trans l4) hD, own_ws w4 hd4 lz2, ⟨upd_same, ?_, hd4.nf, hd4.ns⟩, by rw [List.length_append, List.length_singleton]; omega, r3⟩
                exact (hd4.reps.append (Reps.one rv)).pre (own_pre hd4)
      · have e : i = ds.length := by omega
        subst e
        refine .inl ⟨stop, ?_⟩
        rw [List.drop_length] at r
        have r2 := (show Res X.K E Xw W1 H1 ρ σ (.ok (.lst acc) S') (fun d _ W' H' => ∀ v, Rep X.K W' H' d v → Q v H') from r) (W'.add D) H' (le_add l hD) (ws_add w (by rw [hd.at_]; exact fun z => by cases z) hd.ns)
        exact r2 _ (.lst (.inr rfl) (.inl hd.at_) (hd.reps.pre pre_add))
  · exact False.elim p
theorem den_lc {elt iter : Expr} {ifs : List Expr} {scope : Scope} {pos : Pos} {fi : Ev → Sto → R (List D)} {ftg : D → Ev → Option Ev} {fc : Ev → Sto → R Bool} {fe : Ev → Sto → R D} {own : List (Str × Nat)} {ix : List Nat}
    (c : Cok X g C ev E N sc Xw k) (hi : PI X tg iter (tI X.K E Xw fi)) (ok : blkC N sc scope own = true) (hix : ∀ i ∈ ix, i ∈ own.map (·.2))
    (hg : ∀ (s : Shared) (H : Hp) (C : Addr) (cl : List (Str × Addr)) (fp : List Addr), PG (X.blk s H scope (compEnvC scope cl C X.env) fp) tg (tG X.K E ftg ix))
    (ht : ∀ (s : Shared) (H : Hp) (C : Addr) (cl : List (Str × Addr)) (fp : List Addr), PTs (X.blk s H scope (compEnvC scope cl C X.env) fp) ifs (tBl X.K E (fun _ _ _ => False) fc))
    (he : ∀ (s : Shared) (H : Hp) (C : Addr) (cl : List (Str × Addr)) (fp : List Addr), PE (X.blk s H scope (compEnvC scope cl C X.env) fp) elt (tE X.K E (fun _ _ _ => False) fe))
    (hs : ∀ x, foldedSetIterable iter X.env x = pure x) :
    PE X (.ListComp elt [⟨tg, iter, ifs, 0⟩] scope pos) (tE X.K E Xw fun ρ S => (fi ρ S).bind fun ds S1 => if ds.length ≤ LINE then
            (compL (fun d S2 => lcStep fc fe S2 (ftg d (wipeE ρ (own.map (·.2))))) ds [] S1).bind fun ys S5 => .ok (.lst ys) S5 else .bad) :=
  (pe_lc c.calm (by rw [c.hN]; exact c.nd) hi (own := own) (by rw [c.hN, c.hsc]; exact blkOk_by ok) hg ht he hs).wk fun σ H Q h => lc_red hix h
end
end Lw
set_option maxHeartbeats 2000000
/-! LwF: the evaluator is right for every expression. -/
namespace Lw
open PySem PySem.Spec PyProof.Rows L2

structure Snd (g : G) (C : Call) (ev : Str → Value) (E : Ent) (N : List Str) (k n : Nat) : Prop where
  e : ∀ {X : Cx} {sc : Scope} {Xw : Str → L2.St → Hp → Prop}, Cok X g C ev E N sc Xw k → ∀ e, PE X e (tE X.K E Xw (evE g C N n sc e))
  t : ∀ {X : Cx} {sc : Scope} {Xw : Str → L2.St → Hp → Prop}, Cok X g C ev E N sc Xw k → ∀ e, PE X e (tT X.K E Xw (evT g C N n sc e))
  a : ∀ {X : Cx} {sc : Scope} {Xw : Str → L2.St → Hp → Prop}, Cok X g C ev E N sc Xw k → ∀ es, es.all notStar = true → PA X es (tA X.K E Xw (evA g C N n sc es))
  ts : ∀ {X : Cx} {sc : Scope} {Xw : Str → L2.St → Hp → Prop}, Cok X g C ev E N sc Xw k → ∀ es, es.all notStar = true → PA X es (tTs X.K E Xw (evTs g C N n sc es))
  o : ∀ {X : Cx} {sc : Scope} {Xw : Str → L2.St → Hp → Prop}, Cok X g C ev E N sc Xw k → ∀ e, PO X e (tO X E Xw (evO g C N n sc e))
  bool : ∀ {X : Cx} {sc : Scope} {Xw : Str → L2.St → Hp → Prop}, Cok X g C ev E N sc Xw k → ∀ op e es pos, PE X (.BoolOp op (e :: es) pos) (tE X.K E Xw (evBool g C N n sc op e es))
  test : ∀ {X : Cx} {sc : Scope} {Xw : Str → L2.St → Hp → Prop}, Cok X g C ev E N sc Xw k → ∀ e, PT X e (tBl X.K E Xw (evTest g C N n sc e))
  tests : ∀ {X : Cx} {sc : Scope} {Xw : Str → L2.St → Hp → Prop}, Cok X g C ev E N sc Xw k → ∀ op e es pos, PW X (.BoolOp op (e :: es) pos) (tBl X.K E Xw (evTests g C N n sc op e es))
  ifs : ∀ {X : Cx} {sc : Scope} {Xw : Str → L2.St → Hp → Prop}, Cok X g C ev E N sc Xw k → ∀ es, PTs X es (tBl X.K E Xw (evIfs g C N n sc es))
  it : ∀ {X : Cx} {sc : Scope} {Xw : Str → L2.St → Hp → Prop}, Cok X g C ev E N sc Xw k → ∀ tg e, PI X tg e (tI X.K E Xw (evI g C N n sc tg e))

section
variable {g : G} {C : Call} {ev : Str → Value} {E : Ent} {N : List Str} {k n : Nat} {X : Cx} {sc : Scope} {Xw : Str → L2.St → Hp → Prop}
/-- a comprehension's block is a context -/
theorem Cok.blk (c : Cok X g C ev E N sc Xw k) (s : Shared) (H : Hp) (scope : Scope) (C' : Addr) (cl : List (Str × Addr)) (fp : List Addr) :
    Cok (X.blk s H scope (compEnvC scope cl C' X.env) fp) g C ev E N (relS scope sc) (fun _ _ _ => False) k where
  hN := c.hN
  nd := c.nd
  hsc := by rw [← c.hsc]; rfl
  calm := c.calm
  room := c.room
  tk := fun _ _ x => by
    obtain ⟨_, _, _, _, _, _, _, _, _, _, _, _, _, _, _, _, _, _, _, z⟩ := x
    exact z.elim
  con := c.con
  fns := c.fns
  bis := c.bis
  ar := c.ar
theorem blk_tok (c : Cok X g C ev E N sc Xw k) (s : Shared) (H : Hp) (scope : Scope) (C' : Addr) (cl : List (Str × Addr)) (fp : List Addr) : Tok' (X.blk s H scope (compEnvC scope cl C' X.env) fp) N scope where
  hN := c.hN
  nd := c.nd
  calm := c.calm
  loc := fun x h => by
    unfold locB kindB at h
    have e0 : (X.blk s H scope (compEnvC scope cl C' X.env) fp).env.scope = relS scope X.env.scope := rfl
    rw [e0]
    split at h
    · rename_i q
      have q2 := lookup_relS_keep (sc := X.env.scope) (show NameKind.local ≠ .free by decide) q
      exact ⟨.inl q2, .inr q2⟩
    · rename_i q
      have q2 := lookup_relS_keep (sc := X.env.scope) (show NameKind.cell ≠ .free by decide) q
      exact ⟨.inr q2, .inl (by show (scope.names.lookup x == some NameKind.cell) = true; rw [q]; rfl)⟩
    · cases h
theorem fold_ok {e : Expr} {env : Env} (h : notSet e = true) : ∀ x, foldedSetIterable e env x = pure x := by
  intro x
  cases e <;> first | rfl | (cases h)
theorem snd0 : Snd g C ev E N k 0 where
  e := fun _ e => no_bad nE
  t := fun _ e => no_bad nT
  a := fun _ es _ => no_badA nA
  ts := fun _ es _ => no_badA nTs
  o := fun _ e => ⟨fun _ _ _ _ _ _ ⟨_, _, _, _, h⟩ => h.elim⟩
  bool := fun _ op e es pos => no_bad nE
  test := fun _ e => no_badT nB
  tests := fun _ op e es pos => no_badW nB
  ifs := fun _ es => ⟨fun _ _ _ _ _ _ ⟨_, _, _, _, h⟩ => h.elim⟩
  it := fun _ tg e => no_badI nI
theorem sE {f f' : Ev → Sto → R D} (h : f = f') {e : Expr} (q : PE X e (tE X.K E Xw f')) : PE X e (tE X.K E Xw f) := by rw [h]; exact q
theorem sT {f f' : Ev → Sto → R D} (h : f = f') {e : Expr} (q : PE X e (tT X.K E Xw f')) : PE X e (tT X.K E Xw f) := by rw [h]; exact q
theorem sB {f f' : Ev → Sto → R Bool} (h : f = f') {e : Expr} (q : PT X e (tBl X.K E Xw f')) : PT X e (tBl X.K E Xw f) := by rw [h]; exact q
theorem sI {f f' : Ev → Sto → R (List D)} (h : f = f') {tg e : Expr} (q : PI X tg e (tI X.K E Xw f')) : PI X tg e (tI X.K E Xw f) := by rw [h]; exact q
theorem snd_e (ih : Snd g C ev E N k n) (c : Cok X g C ev E N sc Xw k) (e : Expr) : PE X e (tE X.K E Xw (evE g C N (n + 1) sc e)) := by
  cases e with
  | Constant v kk pos =>
    cases v with
    | none => exact den_c pe_non fun _ _ => .non
    | bool b => exact den_c pe_bl fun _ _ => .bl _
    | int i => exact den_c pe_int fun _ _ => .int _
    | str x => exact den_c pe_str fun _ _ => .str _
    | _ => exact no_bad nE
  | Name x pos =>
    by_cases hp : plainName x = true
    · by_cases hv : visB sc x = true
      · exact sE (by funext ρ S; simp only [evE, hp, hv, if_true] <;> cases getSl ρ (ixOf N x) <;> rfl) (den_name c hp hv)
      · by_cases hg : glB sc x = true
        · exact sE (by funext ρ S; simp only [evE, hp, hv, hg, if_true]; rfl) (den_glob c hp hg)
        · exact sE (by funext ρ S; simp only [evE, hp, hv, hg, if_true]; rfl) (no_bad nE)
    · exact sE (by funext ρ S; simp only [evE, hp]; rfl) (no_bad nE)
  | BinOp a op b pos => exact den_bin (ih.t c a) (ih.t c b)
  | UnaryOp op a pos =>
    cases op with
    | Not => exact den_not (ih.t c a)
    | USub => exact den_neg (ih.t c a)
    | _ => exact no_bad nE
  | BoolOp op es pos =>
    cases es with
    | nil => exact no_bad nE
    | cons e1 es1 => exact ih.bool c op e1 es1 pos
  | IfExp t a b pos => exact den_if (ih.test c t) (ih.e c a) (ih.e c b)
  | Compare a ops bs pos =>
    cases ops with
    | nil => cases bs <;> exact no_bad nE
    | cons op ops =>
      cases ops with
      | nil =>
        cases bs with
        | nil => exact no_bad nE
        | cons b bs =>
          cases bs with
          | nil =>
            by_cases hm : lastMarks [op] [b] = true
            · exact sE (by funext ρ S; simp only [evE, hm, if_true]) (no_bad nE)
            · exact sE (by funext ρ S; simp only [evE, hm]; rfl) (den_cmp (by simpa [lastMarks] using hm) c.hu (ih.t c a) (ih.t c b))
          | cons _ _ => exact no_bad nE
      | cons op2 ops =>
        cases ops with
        | cons _ _ => cases bs <;> exact no_bad nE
        | nil =>
          cases bs with
          | nil => exact no_bad nE
          | cons b bs =>
            cases bs with
            | nil => exact no_bad nE
            | cons b2 bs =>
              cases bs with
              | cons _ _ => exact no_bad nE
              | nil =>
                by_cases hm : lastMarks [op, op2] [b, b2] = true
                · exact sE (by funext ρ S; simp only [evE, hm, if_true]) (no_bad nE)
                · exact sE (by funext ρ S; simp only [evE, hm]; rfl) (den_chain (by simpa using hm) c.hu (ih.t c a) (ih.t c b) (ih.t c b2))
  | Call f es ks pos =>
    cases f with
    | Name x p =>
      cases ks with
      | cons _ _ => exact no_bad nE
      | nil =>
        by_cases hpg : (plainName x && glB sc x) = true
        · obtain ⟨hp, hg⟩ := Bool.and_eq_true_iff.mp hpg
          by_cases hf : (g.fn x).isSome = true
          · cases es with
            | nil => exact sE (by funext ρ S; simp only [evE, hpg, hf, if_true]) (no_bad nE)
            | cons e1 es1 =>
              by_cases hs : (e1 :: es1).all notStar = true
              · exact sE (by funext ρ S; simp only [evE, hpg, hf, hs, if_true]) (den_call c hp hg hf hs (ih.a c _ hs))
              · exact sE (by funext ρ S; simp only [evE, hpg, hf, hs, if_true]; rfl) (no_bad nE)
          · by_cases hb : g.bi x = true
            · by_cases hi : x = "isinstance"
              · subst hi
                have other : (∀ a T q, es ≠ [a, .Name T q]) → evE g C N (n + 1) sc (.Call (.Name "isinstance" p) es [] pos) = fun _ _ => .bad := fun ho => by
                  funext ρ S
                  simp only [evE, hpg, hf, hb, if_true]
                  rw [if_neg (by decide)]
                  trace_state
                match es, other with
                | [a, .Name T q], _ =>
                  by_cases hc : (glB sc T && g.bi T && plainName T && isT T && notStar a) = true
                  · have h0 := hc
                    simp only [Bool.and_eq_true] at hc
                    obtain ⟨⟨⟨⟨h1, h2⟩, h3⟩, h4⟩, h5⟩ := hc
                    exact sE (by funext ρ S; simp only [evE, hpg, hf, hb, h0, if_true]; rw [if_neg (by decide)]) (den_isi c hg hb h1 h2 h3 h4 h5 (ih.t c a))
                  · exact sE (by funext ρ S; simp only [evE, hpg, hf, hb, hc, if_true]; rw [if_neg (by decide)]; rfl) (no_bad nE)
                | [], o => exact sE (o (by intros; simp)) (no_bad nE)
                | [_], o => exact sE (o (by intros; simp)) (no_bad nE)
                | _ :: _ :: _ :: _, o => exact sE (o (by intros; simp)) (no_bad nE)
                | [a, b], o =>
                  by_cases hb2 : ∃ T q, b = .Name T q
                  · obtain ⟨T, q, rfl⟩ := hb2
                    by_cases hc : (glB sc T && g.bi T && plainName T && isT T && notStar a) = true
                    · have h0 := hc
                      simp only [Bool.and_eq_true] at hc
                      obtain ⟨⟨⟨⟨h1, h2⟩, h3⟩, h4⟩, h5⟩ := hc
                      exact sE (by funext ρ S; simp only [evE, hpg, hf, hb, h0, if_true]; rw [if_neg (by decide)]) (den_isi c hg hb h1 h2 h3 h4 h5 (ih.t c a))
                    · exact sE (by funext ρ S; simp only [evE, hpg, hf, hb, hc, if_true]; rw [if_neg (by decide)]; rfl) (no_bad nE)
                  · exact sE (o (by intro a' T q z; exact hb2 ⟨T, q, (List.cons.inj (List.cons.inj z).2).1⟩)) (no_bad nE)
              · by_cases hbc : biC x = true
                · cases es with
                  | nil => exact sE (by funext ρ S; simp only [evE, hpg, hf, hb, hbc, if_true]; rw [if_neg (by decide), if_neg hi]) (no_bad nE)
                  | cons e1 es1 =>
                    by_cases hs : (e1 :: es1).all notStar = true
                    · exact sE (by funext ρ S; simp only [evE, hpg, hf, hb, hbc, hs, if_true]; rw [if_neg (by decide), if_neg hi]) (den_bi c hp hg hb hbc hs (ih.ts c _ hs))
                    · exact sE (by funext ρ S; simp only [evE, hpg, hf, hb, hbc, hs, if_true]; rw [if_neg (by decide), if_neg hi]; rfl) (no_bad nE)
                · exact sE (by funext ρ S; simp only [evE, hpg, hf, hb, hbc, if_true]; rw [if_neg (by decide), if_neg hi]; rfl) (no_bad nE)
            · exact sE (by funext ρ S; simp only [evE, hpg, hf, hb, if_true]; rfl) (no_bad nE)
        · exact sE (by funext ρ S; simp only [evE, hpg]; rfl) (no_bad nE)
    | _ => exact no_bad nE
  | Subscript a i pos =>
    by_cases hi : notSlice i = true
    · refine sE ?_ (den_item (plainIx_of hi) (ih.t c a) (ih.e c i))
      funext ρ S
      cases i <;> first | rfl | cases hi
    · cases i with
      | Slice lo up st p2 =>
        cases st with
        | none => exact den_slice (ih.t c a) (ih.o c lo) (ih.o c up)
        | some _ => exact no_bad nE
      | _ => exact absurd rfl hi
  | Tuple es kk pos =>
    by_cases hs : es.all notStar = true
    · exact sE (by funext ρ S; simp only [evE, hs]; rfl) (den_tup (ih.a c es hs))
    · exact sE (by funext ρ S; simp only [evE, hs]; rfl) (no_bad nE)
  | List es pos =>
    by_cases hs : es.all notStar = true
    · exact sE (by funext ρ S; simp only [evE, hs]; rfl) (den_lst (ih.a c es hs))
    · exact sE (by funext ρ S; simp only [evE, hs]; rfl) (no_bad nE)
  | ListComp elt cs scope pos =>
    match cs with
    | [] => exact sE (by funext ρ S; simp only [evE]) (no_bad nE)
    | _ :: _ :: _ => exact sE (by funext ρ S; simp only [evE]) (no_bad nE)
    | [⟨tg, it, ifs, as⟩] =>
      by_cases h0 : as = 0
      · subst h0
        by_cases hc : (blkC N sc scope (ownOf N scope) && (tgtIx N n tg).all (fun i => decide (i ∈ (ownOf N scope).map (·.2))) && notSet it) = true
        · have h1 := hc
          simp only [Bool.and_eq_true] at hc
          obtain ⟨⟨hb, hx⟩, hse⟩ := hc
          refine sE (by funext ρ S; simp only [evE, h1, if_true]) (den_lc c (ih.it c tg it) hb (fun i hi => of_decide_eq_true (List.all_eq_true.mp hx i hi)) (fun s H C' cl fp => (tgt_ok (blk_tok c s H scope C' cl fp) n).1 tg)
            (fun s H C' cl fp => ih.ifs (c.blk s H scope C' cl fp) ifs) (fun s H C' cl fp => ih.e (c.blk s H scope C' cl fp) elt) (fold_ok hse))
        · exact sE (by funext ρ S; simp only [evE, hc]; rfl) (no_bad nE)
      · refine sE ?_ (no_bad nE)
        funext ρ S
        unfold evE
        dsimp only
        split
        · rename_i z
          injection z with z1 _
          injection z1 with _ _ _ z4
          exact absurd z4 h0
        · rfl
  | _ => exact no_bad nE
end
end Lw
set_option maxHeartbeats 2000000
/-! LwG: the evaluator is right for every expression, test, argument list, walk. -/
namespace Lw
open PySem PySem.Spec PyProof.Rows L2
section
variable {g : G} {C : Call} {ev : Str → Value} {E : Ent} {N : List Str} {k n : Nat} {X : Cx} {sc : Scope} {Xw : Str → L2.St → Hp → Prop}
theorem snd_t (ih : Snd g C ev E N k n) (c : Cok X g C ev E N sc Xw k) (e : Expr) : PE X e (tT X.K E Xw (evT g C N (n + 1) sc e)) := by
  by_cases hn : ∃ x p, e = .Name x p
  · obtain ⟨x, p, rfl⟩ := hn
    by_cases hc : (plainName x && visB sc x) = true
    · obtain ⟨h1, h2⟩ := Bool.and_eq_true_iff.mp hc
      exact sT (by funext ρ S; simp only [evT, hc, if_true] <;> cases getSl ρ (ixOf N x) <;> rfl) (den_nameT c h1 h2)
    · exact sT (by funext ρ S; simp only [evT, hc]; rfl) (den_T (ih.e c (.Name x p)))
  · refine sT ?_ (den_T (ih.e c e))
    funext ρ S
    cases e <;> first | rfl | exact absurd ⟨_, _, rfl⟩ hn
theorem snd_a (ih : Snd g C ev E N k n) (c : Cok X g C ev E N sc Xw k) (es : List Expr) (hs : es.all notStar = true) : PA X es (tA X.K E Xw (evA g C N (n + 1) sc es)) := by
  cases es with
  | nil => exact den_anil
  | cons e es =>
    have q := Bool.and_eq_true_iff.mp (show (notStar e && es.all notStar) = true from hs)
    exact den_acons q.1 (ih.e c e) (ih.a c es q.2)
theorem snd_ts (ih : Snd g C ev E N k n) (c : Cok X g C ev E N sc Xw k) (es : List Expr) (hs : es.all notStar = true) : PA X es (tTs X.K E Xw (evTs g C N (n + 1) sc es)) := by
  cases es with
  | nil => exact den_tsnil
  | cons e es =>
    have q := Bool.and_eq_true_iff.mp (show (notStar e && es.all notStar) = true from hs)
    exact den_tscons q.1 (ih.t c e) (ih.ts c es q.2)
theorem snd_o (ih : Snd g C ev E N k n) (c : Cok X g C ev E N sc Xw k) (o : Option Expr) : PO X o (tO X E Xw (evO g C N (n + 1) sc o)) := by
  cases o with
  | none => exact den_onone
  | some e => exact den_osome (ih.e c e)
theorem snd_bool (ih : Snd g C ev E N k n) (c : Cok X g C ev E N sc Xw k) (op : BoolOp) (e : Expr) (es : List Expr) (pos : Pos) : PE X (.BoolOp op (e :: es) pos) (tE X.K E Xw (evBool g C N (n + 1) sc op e es)) := by
  cases es with
  | nil => exact pe_one (ih.e c e)
  | cons e2 es2 =>
    cases op with
    | And => exact den_and (ih.e c e) (ih.bool c .And e2 es2 pos)
    | Or => exact den_or (ih.e c e) (ih.bool c .Or e2 es2 pos)
theorem snd_tests (ih : Snd g C ev E N k n) (c : Cok X g C ev E N sc Xw k) (op : BoolOp) (e : Expr) (es : List Expr) (pos : Pos) : PW X (.BoolOp op (e :: es) pos) (tBl X.K E Xw (evTests g C N (n + 1) sc op e es)) := by
  cases es with
  | nil =>
    cases op with
    | And => exact pw_and1 (ih.test c e)
    | Or => exact pw_or1 (ih.test c e)
  | cons e2 es2 =>
    cases op with
    | And => exact den_wand (ih.test c e) (ih.tests c .And e2 es2 pos)
    | Or => exact den_wor (ih.test c e) (ih.tests c .Or e2 es2 pos)
theorem snd_ifs (ih : Snd g C ev E N k n) (c : Cok X g C ev E N sc Xw k) (es : List Expr) : PTs X es (tBl X.K E Xw (evIfs g C N (n + 1) sc es)) := by
  match es with
  | [] => exact den_ifs0
  | [e] => exact den_ifs1 (ih.test c e)
  | _ :: _ :: _ => exact ⟨fun _ _ _ _ _ _ ⟨_, _, _, _, h⟩ => h.elim⟩
/-- a comparison as a test, told as evTest tells it -/
theorem cmp_test {a : Expr} {ops : List CmpOp} {bs : List Expr} {pos : Pos} (ih : Snd g C ev E N k n) (c : Cok X g C ev E N sc Xw k) : PT X (.Compare a ops bs pos) (tBl X.K E Xw fun ρ S => (evE g C N (n + 1) sc (.Compare a ops bs pos) ρ S).bind fun d S1 => (match d with
      | .bl b => .ok b S1
      | _ => .bad)) := by
  have bad : (∀ ρ S, evE g C N (n + 1) sc (.Compare a ops bs pos) ρ S = .bad) → PT X (.Compare a ops bs pos) (tBl X.K E Xw fun ρ S => (evE g C N (n + 1) sc (.Compare a ops bs pos) ρ S).bind fun d S1 => (match d with
      | .bl b => .ok b S1
      | _ => .bad)) := fun hb => sB (by funext ρ S; rw [hb]; rfl) (no_badT nB)
  cases ops with
  | nil => cases bs <;> exact bad fun _ _ => rfl
  | cons op ops =>
    cases ops with
    | nil =>
      cases bs with
      | nil => exact bad fun _ _ => rfl
      | cons b bs =>
        cases bs with
        | nil =>
          by_cases hm : lastMarks [op] [b] = true
          · exact bad fun ρ S => by simp only [evE, hm, if_true]
          · exact sB (by funext ρ S; simp only [evE, hm]; rfl) (den_cmpT (by simpa [lastMarks] using hm) c.hu (ih.t c a) (ih.t c b))
        | cons _ _ => exact bad fun _ _ => rfl
    | cons op2 ops =>
      cases ops with
      | cons _ _ => cases bs <;> exact bad fun _ _ => rfl
      | nil =>
        cases bs with
        | nil => exact bad fun _ _ => rfl
        | cons b bs =>
          cases bs with
          | nil => exact bad fun _ _ => rfl
          | cons b2 bs =>
            cases bs with
            | cons _ _ => exact bad fun _ _ => rfl
            | nil =>
              by_cases hm : lastMarks [op, op2] [b, b2] = true
              · exact bad fun ρ S => by simp only [evE, hm, if_true]
              · exact sB (by funext ρ S; simp only [evE, hm]; rfl) (den_chainT (by simpa using hm) c.hu (ih.t c a) (ih.t c b) (ih.t c b2))
theorem snd_test (ihm : ∀ m, m ≤ n → Snd g C ev E N k m) (c : Cok X g C ev E N sc Xw k) (e : Expr) : PT X e (tBl X.K E Xw (evTest g C N (n + 1) sc e)) := by
  have ih := ihm n (Nat.le_refl _)
  cases e with
  | UnaryOp op a p =>
    cases op with
    | Not => exact den_notT (ih.test c a)
    | _ => exact den_tru (by intro _; rfl) (ih.t c _)
  | BoolOp op es p =>
    cases es with
    | nil => exact no_badT nB
    | cons e1 es1 => exact (ih.tests c op e1 es1 p).pt
  | IfExp _ _ _ _ => exact no_badT nB
  | Compare a ops bs p =>
    cases n with
    | zero => exact no_badT nB
    | succ m => exact cmp_test (ihm m (Nat.le_succ _)) c
  | _ => exact den_tru (by intro _; rfl) (ih.t c _)
theorem snd_it (ih : Snd g C ev E N k n) (c : Cok X g C ev E N sc Xw k) (tg e : Expr) : PI X tg e (tI X.K E Xw (evI g C N (n + 1) sc tg e)) := by
  by_cases hn : ∃ f es ks p, e = .Call f es ks p
  · obtain ⟨f, es, ks, p, rfl⟩ := hn
    by_cases hx : ∃ x q, f = .Name x q ∧ ks = []
    · obtain ⟨x, q, rfl, rfl⟩ := hx
      by_cases hc : (plainName x && glB sc x && !(g.fn x).isSome && g.bi x) = true
      · have h0 := hc
        simp only [Bool.and_eq_true] at hc
        obtain ⟨⟨⟨h1, h2⟩, h3⟩, h4⟩ := hc
        by_cases hr : x = "range"
        · subst hr
          match es with
          | [a] =>
            by_cases hs : notStar a = true
            · refine sI ?_ (den_range1 c h2 h4 hs (ih.a c [a] (by simp [hs])))
              funext ρ S
              simp only [evI, h0, hs, if_true]
            · exact sI (by funext ρ S; simp only [evI, h0, hs, if_true]; rfl) (no_badI nI)
          | [a, b] =>
            by_cases hs : (notStar a && notStar b) = true
            · obtain ⟨s1, s2⟩ := Bool.and_eq_true_iff.mp hs
              refine sI ?_ (den_range2 c h2 h4 s1 s2 (ih.a c [a, b] (by simp [s1, s2])))
              funext ρ S
              simp only [evI, h0, hs, if_true]
            · exact sI (by funext ρ S; simp only [evI, h0, hs, if_true]; rfl) (no_badI nI)
          | [] => exact sI (by funext ρ S; simp only [evI, h0, if_true]) (no_badI nI)
          | _ :: _ :: _ :: _ => exact sI (by funext ρ S; simp only [evI, h0, if_true]) (no_badI nI)
        · by_cases hz : x = "zip"
          · subst hz
            match es with
            | [a, b] =>
              by_cases ht : ∃ elts kk tp, tg = .Tuple elts kk tp
              · obtain ⟨elts, kk, tp, rfl⟩ := ht
                by_cases hs : (notStar a && notStar b) = true
                · obtain ⟨s1, s2⟩ := Bool.and_eq_true_iff.mp hs
                  refine sI ?_ (den_zip c h2 h4 s1 s2 (ih.a c [a, b] (by simp [s1, s2])))
                  funext ρ S
                  simp only [evI, h0, hs, isTup, Bool.and_true, if_true]
                  rw [if_neg (by decide)]
                · refine sI ?_ (no_badI nI)
                  funext ρ S
                  simp only [evI, h0, hs, isTup, Bool.and_true, if_true]
                  rw [if_neg (by decide)]
                  rfl
              · refine sI ?_ (no_badI nI)
                funext ρ S
                have e0 : isTup tg = false := by cases tg <;> first | rfl | exact absurd ⟨_, _, _, rfl⟩ ht
                simp only [evI, h0, e0, Bool.and_false, if_true]
                rw [if_neg (by decide)]
                rfl
            | [] => exact sI (by funext ρ S; simp only [evI, h0, if_true]; rw [if_neg (by decide)]) (no_badI nI)
            | [_] => exact sI (by funext ρ S; simp only [evI, h0, if_true]; rw [if_neg (by decide)]) (no_badI nI)
            | _ :: _ :: _ :: _ => exact sI (by funext ρ S; simp only [evI, h0, if_true]; rw [if_neg (by decide)]) (no_badI nI)
          · refine sI ?_ (den_seq (ih.e c _))
            funext ρ S
            simp only [evI, h0, if_true]
            rw [if_neg hr, if_neg hz]
      · refine sI ?_ (den_seq (ih.e c _))
        funext ρ S
        simp only [evI, hc]
        rfl
    · refine sI ?_ (no_badI nI)
      funext ρ S
      cases f <;> first | rfl | (cases ks <;> first | rfl | exact absurd ⟨_, _, rfl, rfl⟩ hx)
  · refine sI ?_ (den_seq (ih.e c e))
    funext ρ S
    cases e <;> first | rfl | exact absurd ⟨_, _, _, _, rfl⟩ hn
theorem snd_all (g : G) (C : Call) (ev : Str → Value) (E : Ent) (N : List Str) (k : Nat) : ∀ n, ∀ m, m ≤ n → Snd g C ev E N k m
  | 0, m, h => by
    have e : m = 0 := Nat.le_zero.mp h
    subst e
    exact snd0
  | n + 1, m, h => by
    have ihm := snd_all g C ev E N k n
    by_cases e : m ≤ n
    · exact ihm m e
    · have e2 : m = n + 1 := by omega
      subst e2
      have ih := ihm n (Nat.le_refl _)
      exact ⟨snd_e ih, snd_t ih, snd_a ih, snd_ts ih, snd_o ih, snd_bool ih, snd_test ihm, snd_tests ih, snd_ifs ih, snd_it ih⟩
theorem snd_n (g : G) (C : Call) (ev : Str → Value) (E : Ent) (N : List Str) (k n : Nat) : Snd g C ev E N k n := snd_all g C ev E N k n n (Nat.le_refl _)
end
end Lw
set_option maxHeartbeats 2000000
/-! LwH: statements. -/
namespace Lw
open PySem PySem.Spec PyProof.Rows L2

/-- what is wanted of a statement's end -/
def ORes (K : PySem.W.Frag) (E : Ent) (Xw : Str → L2.St → Hp → Prop) (W : Wd) (H : Hp) (o : O) (D : Ends) : Prop := match o with
  | .nx ρ' S' => ∀ W' H' σ', Pre K W H W' H' → Rel K E W' H' ρ' σ' S' → D.nx σ' H'
  | .brk ρ' S' => ∀ W' H' σ', Pre K W H W' H' → Rel K E W' H' ρ' σ' S' → D.bk σ' H'
  | .cnt ρ' S' => ∀ W' H' σ', Pre K W H W' H' → Rel K E W' H' ρ' σ' S' → D.ct σ' H'
  | .ret d S' => ∀ W' H', Le E.W E.H W' H' → WS K W' H' S' → ∀ v, Rep K W' H' d v → D.rt v H'
  | .err c ρ' S' => ∀ W' H' σ', Rel K E W' H' ρ' σ' S' → Xw c σ' H'
  | .bad => False
section
variable {K : PySem.W.Frag} {E : Ent} {Xw : Str → L2.St → Hp → Prop} {W W' W1 : Wd} {H H' H1 : Hp} {S S' S1 : Sto} {ρ ρ' : Ev} {σ σ' : L2.St} {D : Ends} {o : O}
theorem ORes.pre (p : Pre K W H W1 H1) (h : ORes K E Xw W H o D) : ORes K E Xw W1 H1 o D := by
  cases o with
  | nx ρ' S' => exact fun W' H' σ' q r => h W' H' σ' (p.trans q) r
  | brk ρ' S' => exact fun W' H' σ' q r => h W' H' σ' (p.trans q) r
  | cnt ρ' S' => exact fun W' H' σ' q r => h W' H' σ' (p.trans q) r
  | ret d S' => exact h
  | err c ρ' S' => exact h
  | bad => exact h
/-- behind a reckoning in a statement -/
theorem ORes.run {α : Type} {r : R α} {f : α → Sto → O} (rel : Rel K E W H ρ σ S) (h : ORes K E Xw W H (r.run ρ f) D) : Res K E Xw W H ρ σ r fun a S1 W1 H1 => ORes K E Xw W1 H1 (f a S1) D := by
  cases r with
  | ok a S' => exact fun W' H' l w => ORes.pre (l.pre rel.ws) (show ORes K E Xw W H (f a S') D from h)
  | err c S' => exact fun W' H' l w => h W' H' σ (rel.step l w)
  | bad => exact h
theorem OwnOk.held {a : Addr} {ds : List Lw.D} (h : OwnOk K E W H a ds) : ∃ vs, Held K W H a ds vs ∧ E.H a = none := by
  obtain ⟨vs, h1, h2, h3, h4, h5⟩ := h
  exact ⟨vs, ⟨h1, h2, h3, h4⟩, h5⟩
/-- a list of one's own is given away -/
theorem Rel.freeze1 (r : Rel K E W H ρ σ S) (i : Nat) : ∃ W', Rel K E W' H (ρ.set i (freezeSl (getSl ρ i))) σ S ∧ Pre K W H W' H := by
  cases e : getSl ρ i with
  | un =>
    have same : ρ.set i (freezeSl .un) = ρ ∨ i < ρ.length := by
      by_cases hi : i < ρ.length
      · exact .inr hi
      · exact .inl (List.set_eq_of_length_le (Nat.le_of_not_lt hi))
    rcases same with z | hi
    · rw [z]; exact ⟨W, r, Pre.refl⟩
    · have z : ρ.set i (freezeSl .un) = ρ := by
        apply List.ext_getElem?
        intro j
        by_cases q : j = i
        · subst q
          rw [List.getElem?_set_self hi]
          unfold getSl at e
          rw [List.getD_eq_getElem?_getD, List.getElem?_eq_getElem hi] at e
          rw [List.getElem?_eq_getElem hi]
          exact congrArg some e.symm
        · rw [List.getElem?_set_ne (Ne.symm q)]
      rw [z]; exact ⟨W, r, Pre.refl⟩
  | val d =>
    have hi := getSl_lt e (fun z => by cases z)
    obtain ⟨v, h1, h2⟩ := r.val i d e
    have q := r.set hi h2
    have z : σ.set i (some v) = σ := by
      apply List.ext_getElem?
      intro j
      by_cases q : j = i
      · subst q
        rw [List.getElem?_set_self (by rw [← r.len]; exact hi), h1]
      · rw [List.getElem?_set_ne (Ne.symm q)]
    rw [z] at q
    exact ⟨W, q, Pre.refl⟩
  | own ds =>
    have hi := getSl_lt e (fun z => by cases z)
    obtain ⟨a, h1, hown⟩ := r.own i ds e
    obtain ⟨vs, hd, hE⟩ := hown.held
    refine ⟨W.add a, ⟨ws_add r.ws (by rw [hd.at_]; exact fun z => by cases z) hd.ns, le_add r.le hE, by rw [List.length_set]; exact r.len, fun j d h => ?_, fun j es h => ?_, fun j l es fs b h2 h3 h4 h5 => ?_⟩, pre_add⟩
    · rw [getSl_set hi] at h
      by_cases q : j = i
      · rw [if_pos q] at h
        cases h
        subst q
        exact ⟨_, h1, .lst (.inr rfl) (.inl hd.at_) (hd.reps.pre pre_add)⟩
      · rw [if_neg q] at h
        obtain ⟨v, h6, h7⟩ := r.val j d h
        exact ⟨v, h6, h7.pre pre_add⟩
    · rw [getSl_set hi] at h
      by_cases q : j = i
      · rw [if_pos q] at h; cases h
      · rw [if_neg q] at h
        obtain ⟨b, h6, hb⟩ := r.own j es h
        obtain ⟨us, hd2, hE2⟩ := hb.held
        refine ⟨b, h6, us, hd2.at_, hd2.reps.pre pre_add, fun f => ?_, hd2.ns, hE2⟩
        rcases f with f | f
        · exact hd2.nf f
        · subst f
          exact q (r.apart j i es ds b h e h6 h1)
    · rw [getSl_set hi] at h2 h3
      by_cases q : j = i
      · rw [if_pos q] at h2; cases h2
      · by_cases q2 : l = i
        · rw [if_pos q2] at h3; cases h3
        · rw [if_neg q] at h2; rw [if_neg q2] at h3
          exact r.apart j l es fs b h2 h3 h4 h5
theorem Rel.freeze {N : List Str} : ∀ (xs : List Str) {W : Wd} {ρ : Ev}, Rel K E W H ρ σ S → ∃ W', Rel K E W' H (Lw.freeze N xs ρ) σ S ∧ Pre K W H W' H
  | [], W, ρ, r => ⟨W, r, Pre.refl⟩
  | x :: xs, W, ρ, r => by
    unfold Lw.freeze
    split
    · obtain ⟨W1, r1, p1⟩ := r.freeze1 (ixOf N x)
      obtain ⟨W2, r2, p2⟩ := Rel.freeze xs r1
      exact ⟨W2, r2, p1.trans p2⟩
    · exact Rel.freeze xs r
theorem freeze_len {N : List Str} : ∀ (xs : List Str) {ρ : Ev}, (Lw.freeze N xs ρ).length = ρ.length
  | [], _ => rfl
  | x :: xs, ρ => by
    unfold Lw.freeze
    rw [freeze_len xs]
    split
    · unfold fz; rw [List.length_set]
    · rfl
/-- a new list of one's own -/
theorem Rel.setOwn {i : Nat} {p : Addr} {ds : List Lw.D} {vs : List V} (r : Rel K E W H ρ σ S) (hi : i < ρ.length) (hd : Held K W H p ds vs) (hE : E.H p = none)
    (ap : ∀ j es b, j ≠ i → getSl ρ j = .own es → σ[j]? = some (some (.ref b)) → b ≠ p) : Rel K E W H (ρ.set i (.own ds)) (σ.set i (some (.ref p))) S where
  ws := r.ws
  le := r.le
  len := by rw [List.length_set, List.length_set]; exact r.len
  val := fun j e h => by
    rw [getSl_set hi] at h
    by_cases q : j = i
    · rw [if_pos q] at h; cases h
    · rw [if_neg q] at h
      rw [List.getElem?_set_ne (Ne.symm q)]
      exact r.val j e h
  own := fun j es h => by
    rw [getSl_set hi] at h
    by_cases q : j = i
    · rw [if_pos q] at h; cases h; subst q
      exact ⟨p, List.getElem?_set_self (by rw [← r.len]; exact hi), vs, hd.at_, hd.reps, hd.nf, hd.ns, hE⟩
    · rw [if_neg q] at h
      rw [List.getElem?_set_ne (Ne.symm q)]
      exact r.own j es h
  apart := fun j l es fs b h1 h2 h3 h4 => by
    rw [getSl_set hi] at h1 h2
    have hi' : i < σ.length := by rw [← r.len]; exact hi
    by_cases q : j = i
    · by_cases q2 : l = i
      · rw [q, q2]
      · exfalso
        rw [if_neg q2] at h2
        rw [List.getElem?_set_ne (Ne.symm q2)] at h4
        subst q
        rw [List.getElem?_set_self hi'] at h3
        cases h3
        exact ap l fs _ q2 h2 h4 rfl
    · by_cases q2 : l = i
      · exfalso
        rw [if_neg q] at h1
        rw [List.getElem?_set_ne (Ne.symm q)] at h3
        subst q2
        rw [List.getElem?_set_self hi'] at h4
        cases h4
        exact ap j es _ q h1 h3 rfl
      · rw [if_neg q] at h1; rw [if_neg q2] at h2
        rw [List.getElem?_set_ne (Ne.symm q)] at h3; rw [List.getElem?_set_ne (Ne.symm q2)] at h4
        exact r.apart j l es fs b h1 h2 h3 h4
/-- a list of one's own is written -/
theorem Rel.writeOwn {i : Nat} {p : Addr} {ds ds' : List Lw.D} {vs vs' : List V} (r : Rel K E W H ρ σ S) (e : getSl ρ i = .own ds) (hp : σ[i]? = some (some (.ref p))) (hd : Held K W H p ds vs) (hE : E.H p = none) (hl : vs'.length ≤ sizeLine) (hr : Reps K W H ds' vs') :
    Rel K E W (upd H p (.lst vs')) (ρ.set i (.own ds')) σ S where
  ws := own_ws r.ws hd hl
  le := le_own r.le hE
  len := by rw [List.length_set]; exact r.len
  val := fun j d h => by
    rw [getSl_set (getSl_lt e (fun z => by cases z))] at h
    by_cases q : j = i
    · rw [if_pos q] at h; cases h
    · rw [if_neg q] at h
      obtain ⟨v, h1, h2⟩ := r.val j d h
      exact ⟨v, h1, h2.pre (own_pre hd)⟩
  own := fun j es h => by
    rw [getSl_set (getSl_lt e (fun z => by cases z))] at h
    by_cases q : j = i
    · rw [if_pos q] at h; cases h; subst q
      exact ⟨p, hp, vs', upd_same, hr.pre (own_pre hd), hd.nf, hd.ns, hE⟩
    · rw [if_neg q] at h
      obtain ⟨b, h1, hb⟩ := r.own j es h
      obtain ⟨us, hd2, hE2⟩ := hb.held
      have ne : b ≠ p := fun z => q (r.apart j i es ds b h e h1 (by rw [z]; exact hp))
      exact ⟨b, h1, us, by rw [upd_ne ne]; exact hd2.at_, hd2.reps.pre (own_pre hd), hd2.nf, hd2.ns, hE2⟩
  apart := fun j l es fs b h1 h2 h3 h4 => by
    rw [getSl_set (getSl_lt e (fun z => by cases z))] at h1 h2
    by_cases q : j = i
    · by_cases q2 : l = i
      · rw [q, q2]
      · rw [if_neg q2] at h2; rw [q] at h3
        exact q.trans (r.apart i l ds fs b e h2 h3 h4)
    · by_cases q2 : l = i
      · rw [if_neg q] at h1; rw [q2] at h4
        exact (r.apart j i es ds b h1 e h3 h4).trans q2.symm
      · rw [if_neg q] at h1; rw [if_neg q2] at h2
        exact r.apart j l es fs b h1 h2 h3 h4
/-- a list of the store is written -/
theorem sto_pre {i : Nat} {vs' : List V} (w : WS K W H S) (hi : i < W.n) : Pre K W H W (upd H (W.μ i) (.lst vs')) where
  tup := fun c xs q => by
    obtain ⟨vs, hp⟩ := w.lstAt hi
    rcases q with (q | ⟨o, q⟩) | q
    · exact .inl (.inl (by rw [upd_ne (ne_of q hp (fun z => by cases z))]; exact q))
    · exact .inl (.inr ⟨o, by rw [upd_ne (ne_of q hp (fun z => by cases z))]; exact q⟩)
    · exact .inr q
  fz := fun _ f => f
  frz := fun c xs f q => by
    have ne : c ≠ W.μ i := fun z => w.nfz i hi (by rw [← z]; exact f)
    rcases q with q | ⟨o, q⟩
    · exact .inl (by rw [upd_ne ne]; exact q)
    · exact .inr ⟨o, by rw [upd_ne ne]; exact q⟩
  n := Nat.le_refl _
  mu := fun _ _ => rfl
theorem Rel.writeSto {i : Nat} {ds' : List Lw.D} {vs' : List V} (r : Rel K E W H ρ σ S) (hi : i < W.n) (hl : vs'.length ≤ sizeLine) (hr : Reps K W H ds' vs') :
    Rel K E W (upd H (W.μ i) (.lst vs')) ρ σ (S.set i (.lst ds')) := by
  have P := sto_pre (vs' := vs') r.ws hi
  have hS : i < S.length := by rw [r.ws.len]; exact hi
  have L : Le W H W (upd H (W.μ i) (.lst vs')) := ⟨fun b o e h => by rw [upd_ne (fun z => h i hi z.symm)]; exact e, fun j hj => by
    by_cases e : W.μ j = W.μ i
    · rw [e, upd_same]; exact fun z => by cases z
    · rw [upd_ne e]; exact r.ws.some hj, Nat.le_refl _, fun _ _ => rfl, fun _ h => h, fun _ h => .inl h, fun j h1 h2 => absurd (Nat.lt_of_le_of_lt h1 h2) (Nat.lt_irrefl _)⟩
  refine r.step L ⟨by rw [List.length_set]; exact r.ws.len, fun j o e => ?_, r.ws.inj, r.ws.nfz, fun a f => ?_, fun c xs q => ?_, fun c xs q => ?_⟩
  · by_cases q : j = i
    · subst q
      rw [List.getElem?_set_self hS] at e
      cases e
      exact ⟨vs', upd_same, hr.pre P⟩
    · rw [List.getElem?_set_ne (Ne.symm q)] at e
      have hj : j < W.n := by rw [← r.ws.len]; exact (List.getElem?_eq_some_iff.mp e).1
      exact (r.ws.ob j o e).pre P (upd_ne fun z => q (r.ws.inj j i hj hi z))
  · by_cases e : a = W.μ i
    · rw [e, upd_same]; exact fun z => by cases z
    · rw [upd_ne e]; exact r.ws.fz a f
  · by_cases e : c = W.μ i
    · subst e
      rcases q with q | ⟨o, q⟩
      · rw [upd_same] at q; cases q; exact hl
      · rw [upd_same] at q; cases q
    · rcases q with q | ⟨o, q⟩
      · rw [upd_ne e] at q; exact r.ws.wf c xs (.inl q)
      · rw [upd_ne e] at q; exact r.ws.wf c xs (.inr ⟨o, q⟩)
  · by_cases e : c = W.μ i
    · subst e
      rcases q with (q | ⟨o, q⟩) | q
      · rw [upd_same] at q; cases q
      · rw [upd_same] at q; cases q
      · exact r.ws.wft _ xs (.inr q)
    · rcases q with (q | ⟨o, q⟩) | q
      · rw [upd_ne e] at q; exact r.ws.wft c xs (.inl (.inl q))
      · rw [upd_ne e] at q; exact r.ws.wft c xs (.inl (.inr ⟨o, q⟩))
      · exact r.ws.wft c xs (.inr q)
/-- a new thing of the store -/
def Wd.push (W : Wd) (p : Addr) : Wd := { W with n := W.n + 1, μ := fun i => if i = W.n then p else W.μ i }
theorem push_old {W : Wd} {p : Addr} {i : Nat} (h : i < W.n) : (W.push p).μ i = W.μ i := if_neg (Nat.ne_of_lt h)
theorem push_new {W : Wd} {p : Addr} : (W.push p).μ W.n = p := if_pos rfl
theorem le_push {p : Addr} {o : HO} (w : WS K W H S) (hp : H p = none) : Le W H (W.push p) (upd H p o) where
  keep := fun b u e _ => by rw [upd_ne (ne_of_none e hp)]; exact e
  sto := fun i hi => by
    have q := w.some hi
    rw [upd_ne (fun z => q (by rw [z]; exact hp))]; exact q
  n := Nat.le_succ _
  mu := fun i hi => push_old hi
  fz := fun _ h => h
  fz' := fun _ h => .inl h
  new := fun i h1 h2 => by
    have e : i = W.n := Nat.le_antisymm (Nat.le_of_lt_succ h2) h1
    rw [e, push_new]; exact hp
theorem ws_push {p : Addr} {ds : List Lw.D} {vs : List V} (w : WS K W H S) (hp : H p = none) (hl : vs.length ≤ sizeLine) (hr : Reps K W H ds vs) : WS K (W.push p) (upd H p (.lst vs)) (S ++ [.lst ds]) := by
  have L := le_push (o := .lst vs) w hp
  have P := L.pre w
  have old : ∀ i, i < W.n → W.μ i ≠ p := fun i hi z => w.some hi (by rw [z]; exact hp)
  refine ⟨by rw [List.length_append, List.length_singleton, w.len]; rfl, fun j o e => ?_, fun i j h1 h2 z => ?_, fun i hi f => ?_, fun a f => ?_, fun c xs q => ?_, fun c xs q => ?_⟩
  · by_cases hj : j < S.length
    · rw [List.getElem?_append_left hj] at e
      have hj' : j < W.n := by rw [← w.len]; exact hj
      rw [push_old hj']
      exact (w.ob j o e).pre P (upd_ne (old j hj'))
    · rw [List.getElem?_append_right (Nat.le_of_not_lt hj)] at e
      have hj2 : j = W.n := by
        rw [← w.len]
        have := (List.getElem?_eq_some_iff.mp e).1
        rw [List.length_singleton] at this
        omega
      subst hj2
      rw [← w.len, Nat.sub_self] at e
      cases e
      rw [push_new]
      exact ⟨vs, upd_same, hr.pre P⟩
  · by_cases e1 : i = W.n
    · by_cases e2 : j = W.n
      · rw [e1, e2]
      · have hj : j < W.n := by have : j < W.n + 1 := h2; omega
        rw [e1, push_new, push_old hj] at z
        exact absurd z.symm (old j hj)
    · have hi : i < W.n := by have : i < W.n + 1 := h1; omega
      by_cases e2 : j = W.n
      · rw [e2, push_new, push_old hi] at z
        exact absurd z (old i hi)
      · have hj : j < W.n := by have : j < W.n + 1 := h2; omega
        rw [push_old hi, push_old hj] at z
        exact w.inj i j hi hj z
  · by_cases e1 : i = W.n
    · rw [e1, push_new] at f
      exact w.fz p f hp
    · have hi' : i < W.n := by have : i < W.n + 1 := hi; omega
      rw [push_old hi'] at f
      exact w.nfz i hi' f
  · have q := w.fz a f
    rw [upd_ne fun z => q (by rw [z]; exact hp)]; exact q
  · rcases rd_upd hp q (fun ob z => by cases z) with q | ⟨_, q⟩
    · exact w.wf c xs q
    · cases q; exact hl
  · rcases q with q | q
    · rcases rd_upd hp q (fun ob z => by cases z) with q | ⟨_, q⟩
      · exact w.wft c xs (.inl q)
      · cases q
    · exact w.wft c xs (.inr q)
end
end Lw
set_option maxHeartbeats 2000000
/-! LwI: the evaluator is right for statements. -/
namespace Lw
open PySem PySem.Spec PyProof.Rows L2

/-- a def's body -/
structure Sok (X : Cx) (g : G) (C : Call) (ev : Str → Value) (E : Ent) (N : List Str) (sc : Scope) (Xw : Str → L2.St → Hp → Prop) (k : Nat) : Prop where
  c : Cok X g C ev E N sc Xw k
  hp : PassesOwn (model X.prog X.w) X.A X.env X.xe
  tok : Tok' X N sc
  kind : sc.kind = .function
  exc : ∀ x, g.exc x = true → ∃ Ca, X.mg x = some (.ref Ca) ∧ ev x = .ref Ca ∧ PySem.W.excIn X.K Ca He.veBase "ValueError.__new__" = true ∧ PySem.W.keepIn X.K (.ref Ca) = true ∧
    PySem.W.subIn X.K (.ref Ca) (.type "BaseException") = some true ∧ PySem.W.typeIn X.K (.ref Ca) = some (.type "type")
def tS (K : PySem.W.Frag) (E : Ent) (Xw : Str → L2.St → Hp → Prop) (f : Ev → Sto → O) : TS := fun D σ H => ∃ W ρ S, Rel K E W H ρ σ S ∧ ORes K E Xw W H (f ρ S) D
section
variable {g : G} {C : Call} {ev : Str → Value} {E : Ent} {N : List Str} {k n : Nat} {X : Cx} {sc : Scope} {Xw : Str → L2.St → Hp → Prop}
theorem no_badS {st : Stmt} {f : Ev → Sto → O} (h : ∀ ρ S, f ρ S = .bad) : PS X st (tS X.K E Xw f) := ⟨fun pins s σ H D I ⟨W, ρ, S, rel, q⟩ => by rw [h] at q; exact False.elim q⟩
theorem no_badSs {st : List Stmt} {f : Ev → Sto → O} (h : ∀ ρ S, f ρ S = .bad) : PSs X st (tS X.K E Xw f) := ⟨fun pins s σ H D I ⟨W, ρ, S, rel, q⟩ => by rw [h] at q; exact False.elim q⟩
theorem sS {f f' : Ev → Sto → O} (h : ∀ ρ S, f ρ S = f' ρ S) {st : Stmt} (q : PS X st (tS X.K E Xw f')) : PS X st (tS X.K E Xw f) := by
  have e : f = f' := by funext ρ S; exact h ρ S
  rw [e]; exact q
/-- ahead of a statement its lists are given away -/
theorem fr_S {f : Ev → Sto → O} {xs : List Str} {st : Stmt} (q : PS X st (tS X.K E Xw f)) : PS X st (tS X.K E Xw fun ρ S => f (freeze N xs ρ) S) :=
  q.wk fun D σ H ⟨W, ρ, S, rel, h⟩ => by
    obtain ⟨W', rel', p⟩ := rel.freeze (N := N) xs
    exact ⟨W', _, S, rel', h.pre p⟩
/-! ### blocks -/
theorem ds_nil : PSs X [] (tS X.K E Xw fun ρ S => .nx ρ S) := pss_nil.wk fun D σ H ⟨W, ρ, S, rel, h⟩ => h W H σ Pre.refl rel
theorem ds_cons {st : Stmt} {rest : List Stmt} {f fs : Ev → Sto → O} (h1 : PS X st (tS X.K E Xw f)) (h2 : PSs X rest (tS X.K E Xw fs)) : PSs X (st :: rest) (tS X.K E Xw fun ρ S => (f ρ S).seq fs) := by
  refine (pss_cons h1 h2).wk fun D σ H ⟨W, ρ, S, rel, h⟩ => ⟨W, ρ, S, rel, ?_⟩
  dsimp only at h
  cases z : f ρ S with
  | nx ρ' S' =>
    rw [z] at h
    exact fun W' H' σ' p r => ⟨W', ρ', S', r, ORes.pre p (show ORes X.K E Xw W H (fs ρ' S') D from h)⟩
  | brk ρ' S' => rw [z] at h; exact h
  | cnt ρ' S' => rw [z] at h; exact h
  | ret d S' => rw [z] at h; exact h
  | err c ρ' S' => rw [z] at h; exact h
  | bad => rw [z] at h; exact h
theorem ds_pass {pos : Pos} : PS X (.Pass pos) (tS X.K E Xw fun ρ S => .nx ρ S) := ps_pass.wk fun D σ H ⟨W, ρ, S, rel, h⟩ => h W H σ Pre.refl rel
theorem ds_break {pos : Pos} : PS X (.Break pos) (tS X.K E Xw fun ρ S => .brk ρ S) := ps_break.wk fun D σ H ⟨W, ρ, S, rel, h⟩ => h W H σ Pre.refl rel
theorem ds_cont {pos : Pos} : PS X (.Continue pos) (tS X.K E Xw fun ρ S => .cnt ρ S) := ps_continue.wk fun D σ H ⟨W, ρ, S, rel, h⟩ => h W H σ Pre.refl rel
/-! ### return, if, expressions, raise -/
theorem ds_ret0 {pos : Pos} : PS X (.Return none pos) (tS X.K E Xw fun ρ S => .ret .non S) := ps_retN.wk fun D σ H ⟨W, ρ, S, rel, h⟩ => h W H rel.le rel.ws _ .non
theorem ds_ret {e : Expr} {fe : Ev → Sto → R Lw.D} {pos : Pos} (he : PE X e (tE X.K E Xw fe)) : PS X (.Return (some e) pos) (tS X.K E Xw fun ρ S => (fe ρ S).run ρ fun d S1 => .ret d S1) :=
  (ps_ret he).wk fun D σ H ⟨W, ρ, S, rel, h⟩ => ⟨W, ρ, S, rel, (ORes.run rel h).mono fun d S1 W1 H1 l1 w1 p v rv => p W1 H1 (rel.le.trans l1) w1 v rv⟩
theorem ds_retBox {es : List Expr} {fs : Ev → Sto → R (List Lw.D)} {p pos : Pos} (ha : PA X es (tA X.K E Xw fs)) :
    PS X (.Return (some (.List es p)) pos) (tS X.K E Xw fun ρ S => (fs ρ S).run ρ fun ds S1 => if ds.length ≤ LINE then .ret (.ref S1.length) (S1 ++ [.lst ds]) else .bad) := by
  refine (ps_ret (pe_lst ha)).wk fun D σ H ⟨W, ρ, S, rel, h⟩ => ⟨W, ρ, S, rel, (ORes.run rel h).mono fun ds S1 W1 H1 l1 w1 p vs rv => ?_⟩
  split at p
  · rename_i hz
    have hz' : vs.length ≤ sizeLine := by rw [size_line, ← rv.length]; exact hz
    refine ⟨hz', fun t ht => ?_⟩
    have L := le_push (o := .lst vs) w1 ht
    have q := p (W1.push t) _ ((rel.le.trans l1).trans L) (ws_push w1 ht hz' rv)
    refine q _ ?_
    have e : (.ref t : V) = .ref ((W1.push t).μ S1.length) := by rw [w1.len, push_new]
    rw [e]
    exact .ref (by rw [w1.len]; exact Nat.lt_succ_self _)
  · exact False.elim p
theorem ds_if {c : Expr} {a b : List Stmt} {fc : Ev → Sto → R Bool} {fa fb : Ev → Sto → O} {pos : Pos} (hc : PT X c (tBl X.K E Xw fc)) (ha : PSs X a (tS X.K E Xw fa)) (hb : PSs X b (tS X.K E Xw fb)) :
    PS X (.If c a b pos) (tS X.K E Xw fun ρ S => (fc ρ S).run ρ fun t S1 => if t then fa ρ S1 else fb ρ S1) := by
  refine (ps_if hc ha hb).wk fun D σ H ⟨W, ρ, S, rel, h⟩ => ⟨W, ρ, S, rel, (ORes.run rel h).mono fun t S1 W1 H1 l1 w1 p => ?_⟩
  cases t with
  | true => exact iteT ⟨W1, ρ, S1, rel.step l1 w1, by rw [if_pos rfl] at p; exact p⟩
  | false => exact iteF ⟨W1, ρ, S1, rel.step l1 w1, by rw [if_neg Bool.false_ne_true] at p; exact p⟩
theorem sw_none {e : Expr} {l : Nat} {env : Env} (h : noComp e = true) (t : Option Expr) : swapsWith e t l env = pure false := by
  cases e <;> first | rfl | cases h
theorem ds_expr {e : Expr} {fe : Ev → Sto → R Lw.D} {pos : Pos} (hs : swapsWith e none pos.line X.env = pure false) (he : PE X e (tE X.K E Xw fe)) : PS X (.Expr e pos) (tS X.K E Xw fun ρ S => (fe ρ S).run ρ fun _ S1 => .nx ρ S1) :=
  (ps_expr he hs).wk fun D σ H ⟨W, ρ, S, rel, h⟩ => ⟨W, ρ, S, rel, (ORes.run rel h).mono fun d S1 W1 H1 l1 w1 p v rv => p W1 H1 σ Pre.refl (rel.step l1 w1)⟩
/-- X(), X an own exception class without own __init__ -/
theorem pmk_own0 {Ca : Addr} {bmB : List Value} {B newId initId : String} {x : Str} {p pos : Pos} (F : ExcBaseFacts B newId initId bmB) (q : PySem.W.excIn X.K Ca bmB newId = true) (gC : X.mg x = some (.ref Ca))
    (kC : PySem.W.keepIn X.K (.ref Ca) = true) (r : Raises X (.ref Ca)) (hg : Gl X x) (hdb : (x == ("__debug__" : Str)) = false) : PMk X (.Call (.Name x p) [] [] pos) (fun _ H Q => Q (.ref Ca) none H) := by
  intro pins s σ H Q I h
  refine wpAny_Call_Name_kw (ld_glob I hg gC ?_ hdb)
  refine PySem.W.callWith_K0 I.kIn kC ?_
  show wpAny _ _ (call (.ref Ca) []) _ _ _
  obtain ⟨bm, N, nm, qn, bs, hdct, sn, sub, ab, col, dd, k0, k1, k2, k3, k5, mN, hC, hN, hni, T⟩ := exc_obj I.kIn q
  refine wpAny_call_exc_subT F T hC hN hni (fun h' e hm => ?_) (Nat.zero_le _)
  exact mk_of I hm r h (I.hok.gone hm.new)
theorem ds_raise {x : Str} {p pos pos2 : Pos} (S : Sok X g C ev E N sc Xw k) (hx : g.exc x = true) (hg : glB sc x = true) (hpn : plainName x = true) : PS X (.Raise (some (.Call (.Name x p) [] [] pos)) none pos2) (tS X.K E Xw fun ρ S => .err x ρ S) := by
  obtain ⟨Ca, h1, h2, h3, h4, h5, h6⟩ := S.exc x hx
  refine (ps_raise S.c.calm S.c.tk (pmk_own0 PySem.F.excBase_ValueError h3 h1 h4 (raises_own h5 h6) (glOk hg S.c.hsc) (plain3 hpn).1)).wk fun D σ H ⟨W, ρ, S0, rel, h⟩ => ?_
  exact ⟨x, h2.symm, rfl, h W H σ rel⟩
/-! ### stores -/
theorem slot_N {W : Wd} {H : Hp} {ρ : Ev} {S0 : Sto} {σ : L2.St} {pins : List (Addr × Obj)} {s : Shared} (c : Cok X g C ev E N sc Xw k) (I : Inv X pins σ H s) (r : Rel X.K E W H ρ σ S0) {i : Nat} (h : i < ρ.length) : i < N.length := by
  rw [← slot_len c I r]; exact h
/-- the target's place is known where the reading is -/
theorem ps_at {st : Stmt} {x : Str} {f : Ev → Sto → O} (S : Sok X g C ev E N sc Xw k) (hf : ∀ ρ S, ¬ ixOf N x < ρ.length → f ρ S = .bad) (q : ixOf N x < N.length → PS X st (tS X.K E Xw f)) : PS X st (tS X.K E Xw f) := by
  refine ⟨fun pins s σ H D I h => ?_⟩
  obtain ⟨W, ρ, S0, rel, h2⟩ := id h
  by_cases hi : ixOf N x < ρ.length
  · exact (q (slot_N S.c I rel hi)).run pins s σ H D I h
  · rw [hf ρ S0 hi] at h2; exact False.elim h2
theorem rho_len {W : Wd} {H : Hp} {ρ : Ev} {S0 : Sto} {σ : L2.St} {i : Nat} (r : Rel X.K E W H ρ σ S0) (h : i < ρ.length) : i < σ.length := by rw [← r.len]; exact h
theorem ds_own {x : Str} {es : List Expr} {fs : Ev → Sto → R (List Lw.D)} {p lp pos : Pos} (S : Sok X g C ev E N sc Xw k) (hl : locB sc x = true) (hn : ixOf N x < N.length) (ha : PA X es (tA X.K E Xw fs)) :
    PS X (.Assign [.Name x p] (.List es lp) pos) (tS X.K E Xw fun ρ S => if ixOf N x < ρ.length then (fs ρ S).run ρ fun ds S1 => if ds.length ≤ LINE then .nx (ρ.set (ixOf N x) (.own ds)) S1 else .bad else .bad) := by
  obtain ⟨h1, h2⟩ := S.tok.loc x hl
  refine (ps_set (i := ixOf N x) (by rw [S.c.hN]; exact S.c.nd) (by rw [S.c.hN]; exact ix_ok hn) h1 (pe_lst ha) rfl h2).wk fun D σ H ⟨W, ρ, S0, rel, h⟩ => ?_
  dsimp only at h
  split at h
  · rename_i hi
    refine ⟨W, ρ, S0, rel, (ORes.run rel h).mono fun ds S1 W1 H1 l1 w1 pp vs rv => ?_⟩
    split at pp
    · rename_i hz
      have hz' : vs.length ≤ sizeLine := by rw [size_line, ← rv.length]; exact hz
      refine ⟨hz', fun t ht => ?_⟩
      have L := le_new (K := X.K) w1 ht (.lst vs) W1 rfl rfl (fun _ h => h) (fun _ h => .inl h)
      have rel1 := rel.step l1 w1
      have rel2 := rel1.step L (ws_new w1 ht (.lst vs) W1 rfl rfl (fun _ h => h) (fun _ h => .inl h) (fun xs e => by cases e; exact hz') (fun xs e => by cases e) (fun _ _ e => by cases e))
      refine pp W1 _ _ (L.pre w1) (rel2.setOwn hi ⟨upd_same, rv.pre (L.pre w1), fun f => w1.fz t f ht, fun j hj z => w1.some hj (by rw [z]; exact ht)⟩ (rel1.le.gone ht) fun j es b _ hj hb z => ?_)
      obtain ⟨b', hb', us, hu, _⟩ := rel1.own j es hj
      rw [hb] at hb'
      cases hb'
      rw [z, ht] at hu
      cases hu
    · exact False.elim pp
  · exact False.elim h
/-- the red of a plain store -/
theorem asg_red {fe : Ev → Sto → R Lw.D} {D : Ends} {σ : L2.St} {H : Hp} {i : Nat} (h : tS X.K E Xw (fun ρ S => if i < ρ.length then (fe ρ S).run ρ fun d S1 => .nx (ρ.set i (.val d)) S1 else .bad) D σ H) :
    tAsg (tE X.K E Xw fe) (gName i) D σ H := by
  obtain ⟨W, ρ, S0, rel, h⟩ := h
  dsimp only at h
  split at h
  · rename_i hi
    exact ⟨W, ρ, S0, rel, (ORes.run rel h).mono fun d S1 W1 H1 l1 w1 p v rv => p W1 H1 _ Pre.refl ((rel.step l1 w1).set hi rv)⟩
  · exact False.elim h
theorem den_setLc {i : Nat} {y : Str} {py : Pos} {elt tg iter : Expr} {ifs : List Expr} {scope : Scope} {pos spos : Pos} {fi : Ev → Sto → R (List Lw.D)} {ftg : Lw.D → Ev → Option Ev} {fc : Ev → Sto → R Bool} {fe : Ev → Sto → R Lw.D} {own : List (Str × Nat)} {ix : List Nat}
    (c : Cok X g C ev E N sc Xw k) (hN : X.N.Nodup) (hy : X.N[i]? = some y) (hyl : X.env.scope.names.lookup y = some .local)
    (hsw : swapsWith (.ListComp elt [⟨tg, iter, ifs, 0⟩] scope pos) (some (.Name y py)) spos.line X.env = pure true) (hi : PI X tg iter (tI X.K E Xw fi)) (ok : blkC N sc scope own = true) (hix : ∀ i ∈ ix, i ∈ own.map (·.2))
    (hg : ∀ (s : Shared) (H : Hp) (C : Addr) (cl : List (Str × Addr)) (fp : List Addr), PG (X.blk s H scope (compEnvC scope cl C X.env) fp) tg (tG X.K E ftg ix))
    (ht : ∀ (s : Shared) (H : Hp) (C : Addr) (cl : List (Str × Addr)) (fp : List Addr), PTs (X.blk s H scope (compEnvC scope cl C X.env) fp) ifs (tBl X.K E (fun _ _ _ => False) fc))
    (he : ∀ (s : Shared) (H : Hp) (C : Addr) (cl : List (Str × Addr)) (fp : List Addr), PE (X.blk s H scope (compEnvC scope cl C X.env) fp) elt (tE X.K E (fun _ _ _ => False) fe))
    (hs : ∀ x, foldedSetIterable iter X.env x = pure x) :
    PS X (.Assign [.Name y py] (.ListComp elt [⟨tg, iter, ifs, 0⟩] scope pos) spos) (tS X.K E Xw fun ρ S => if i < ρ.length then ((fi ρ S).bind fun ds S1 => if ds.length ≤ LINE then
            (compL (fun d S2 => lcStep fc fe S2 (ftg d (wipeE ρ (own.map (·.2))))) ds [] S1).bind fun ys S5 => .ok (.lst ys) S5 else .bad).run ρ fun d S1 => .nx (ρ.set i (.val d)) S1 else .bad) :=
  (ps_setLc c.calm hN hy hyl hsw hi (own := own) (by rw [c.hN, c.hsc]; exact blkOk_by ok) hg ht he hs).wk fun D σ H h => lc_red hix (asg_red h)
theorem ds_val {x : Str} {e : Expr} {p pos : Pos} (S : Sok X g C ev E N sc Xw k) (hl : locB sc x = true) (hn : ixOf N x < N.length) :
    PS X (.Assign [.Name x p] e pos) (tS X.K E Xw fun ρ S => if ixOf N x < ρ.length then (evE g C N n sc e ρ S).run ρ fun d S1 => .nx (ρ.set (ixOf N x) (.val d)) S1 else .bad) := by
  obtain ⟨h1, h2⟩ := S.tok.loc x hl
  have nd : X.N.Nodup := by rw [S.c.hN]; exact S.c.nd
  have ix : X.N[ixOf N x]? = some x := by rw [S.c.hN]; exact ix_ok hn
  have plainly : swapsWith e (some (.Name x p)) pos.line X.env = pure false → PS X (.Assign [.Name x p] e pos) (tS X.K E Xw fun ρ S => if ixOf N x < ρ.length then (evE g C N n sc e ρ S).run ρ fun d S1 => .nx (ρ.set (ixOf N x) (.val d)) S1 else .bad) := fun hs =>
    (ps_set nd ix h1 ((snd_n g C ev E N k n).e S.c e) hs h2).wk fun D σ H h => asg_red h
  by_cases hc : ∃ elt cs scope lp, e = .ListComp elt cs scope lp
  · obtain ⟨elt, cs, scope, lp, rfl⟩ := hc
    have hsw : swapsWith (.ListComp elt cs scope lp) (some (.Name x p)) pos.line X.env = pure (X.env.blockKind == .function && X.env.kindOf x == some .local && p.line == lp.line && !(scope.names.any fun (n, k) => n == x && (k == .local || k == .cell))) := rfl
    cases hb : (X.env.blockKind == .function && X.env.kindOf x == some .local && p.line == lp.line && !(scope.names.any fun (n, k) => n == x && (k == .local || k == .cell))) with
    | false => exact plainly (by rw [hsw, hb])
    | true =>
      rw [hb] at hsw
      have hloc : X.env.scope.names.lookup x = some .local := by
        simp only [Bool.and_eq_true, beq_iff_eq] at hb
        exact hb.1.1.2
      have bad : (∀ ρ S, evE g C N n sc (.ListComp elt cs scope lp) ρ S = .bad) → PS X (.Assign [.Name x p] (.ListComp elt cs scope lp) pos) (tS X.K E Xw fun ρ S => if ixOf N x < ρ.length then (evE g C N n sc (.ListComp elt cs scope lp) ρ S).run ρ fun d S1 => .nx (ρ.set (ixOf N x) (.val d)) S1 else .bad) := fun hb => no_badS fun ρ S => by
        rw [hb]
        split <;> rfl
      cases n with
      | zero => exact bad fun _ _ => rfl
      | succ m =>
        match cs with
        | [] => exact bad fun ρ S => by simp only [evE]
        | _ :: _ :: _ => exact bad fun ρ S => by simp only [evE]
        | [⟨tg, it, ifs, as⟩] =>
          by_cases h0 : as = 0
          · subst h0
            by_cases hcc : (blkC N sc scope (ownOf N scope) && (tgtIx N m tg).all (fun i => decide (i ∈ (ownOf N scope).map (·.2))) && notSet it) = true
            · have h3 := hcc
              simp only [Bool.and_eq_true] at hcc
              obtain ⟨⟨hbb, hx⟩, hse⟩ := hcc
              have ih := snd_n g C ev E N k m
              have hix : ∀ i ∈ tgtIx N m tg, i ∈ (ownOf N scope).map (·.2) := fun i hi => of_decide_eq_true (List.all_eq_true.mp hx i hi)
              refine sS ?_ (den_setLc S.c nd ix hloc hsw (ih.it S.c tg it) hbb hix (fun s H C' cl fp => (tgt_ok (blk_tok S.c s H scope C' cl fp) m).1 tg)
                (fun s H C' cl fp => ih.ifs (S.c.blk s H scope C' cl fp) ifs) (fun s H C' cl fp => ih.e (S.c.blk s H scope C' cl fp) elt) (fold_ok hse))
              intro ρ S
              simp only [evE, h3, if_true]
            · exact bad fun ρ S => by simp only [evE, hcc]; rfl
          · refine bad fun ρ S => ?_
            unfold evE
            dsimp only
            split
            · rename_i z
              injection z with z1 _
              injection z1 with _ _ _ z4
              exact absurd z4 h0
            · rfl
  · by_cases hs : noComp e = true
    · exact plainly (sw_none hs _)
    · refine no_badS fun ρ S => ?_
      have eb : evE g C N n sc e ρ S = .bad := by
        cases e <;> first | (cases n <;> rfl) | exact absurd ⟨_, _, _, _, rfl⟩ hc | exact absurd rfl hs
      rw [eb]
      split <;> rfl
theorem ds_tup {tg : List Expr} {e : Expr} {kk : Nat} {p pos : Pos} (S : Sok X g C ev E N sc Xw k) (hw : swappedStores [.Tuple tg kk p] e X.env = pure none) :
    PS X (.Assign [.Tuple tg kk p] e pos) (tS X.K E Xw fun ρ S => (evE g C N n sc e ρ S).run ρ fun d S1 => (match asgT N sc n (.Tuple tg kk p) d ρ with
          | some ρ1 => .nx ρ1 S1
          | none => .bad)) := by
  have hs : swapsWithSole [.Tuple tg kk p] e pos.line X.env = pure false := by
    show swapsWith e (some (.Tuple tg kk p)) pos.line X.env = pure false
    cases e <;> rfl
  refine (ps_asg ((snd_n g C ev E N k n).e S.c e) ((tgt_ok (E := E) S.tok n).1 (.Tuple tg kk p)) hs hw rfl).wk fun D σ H ⟨W, ρ, S0, rel, h⟩ => ⟨W, ρ, S0, rel, (ORes.run rel h).mono fun d S1 W1 H1 l1 w1 pp v rv => ?_⟩
  cases z : asgT N sc n (.Tuple tg kk p) d ρ with
  | none => rw [z] at pp; exact False.elim pp
  | some ρ1 =>
    rw [z] at pp
    exact ⟨W1, ρ, S1, d, ρ1, rel.step l1 w1, rv, z, fun σ' rel' _ _ => pp W1 H1 σ' Pre.refl rel'⟩
theorem ds_par {x y : Str} {a b : Expr} {fs : Ev → Sto → R (List Lw.D)} {px py pt pt2 pos : Pos} {kt k2 : Nat} (S : Sok X g C ev E N sc Xw k) (hx : isLocB sc x = true) (hy : isLocB sc y = true) (hxy : (x == y) = false) (hnx : ixOf N x < N.length) (hny : ixOf N y < N.length)
    (hw : swappedStores [.Tuple [.Name x px, .Name y py] kt pt] (.Tuple [a, b] k2 pt2) X.env = pure (some [x, y])) (ha : PA X [a, b] (tA X.K E Xw fs)) :
    PS X (.Assign [.Tuple [.Name x px, .Name y py] kt pt] (.Tuple [a, b] k2 pt2) pos) (tS X.K E Xw fun ρ S => if decide (ixOf N x < ρ.length) && decide (ixOf N y < ρ.length) then (fs ρ S).run ρ fun ds S1 => (match ds with
              | [d1, d2] => .nx ((ρ.set (ixOf N x) (.val d1)).set (ixOf N y) (.val d2)) S1
              | _ => .bad) else .bad) := by
  have lx : X.env.scope.names.lookup x = some .local := by
    rw [S.c.hsc]; unfold isLocB kindB at hx; split at hx <;> first | assumption | cases hx
  have ly : X.env.scope.names.lookup y = some .local := by
    rw [S.c.hsc]; unfold isLocB kindB at hy; split at hy <;> first | assumption | cases hy
  have ij : ixOf N x ≠ ixOf N y := fun z => by
    have q1 := ix_ok hnx
    rw [z, ix_ok hny] at q1
    have := Option.some.inj q1
    rw [this] at hxy
    simp at hxy
  refine (ps_par (i := ixOf N x) (j := ixOf N y) S.c.calm (by rw [S.c.hN]; exact S.c.nd) (by rw [S.c.hN]; exact ix_ok hnx) (by rw [S.c.hN]; exact ix_ok hny) ij lx ly ha hw rfl).wk fun D σ H ⟨W, ρ, S0, rel, h⟩ => ?_
  dsimp only at h
  split at h
  · rename_i hi
    obtain ⟨h1, h2⟩ := Bool.and_eq_true_iff.mp hi
    refine ⟨W, ρ, S0, rel, (ORes.run rel h).mono fun ds S1 W1 H1 l1 w1 pp vs rv => ?_⟩
    cases rv with
    | nil => exact False.elim pp
    | @cons d ds v vs r rs =>
      cases rs with
      | nil => exact False.elim pp
      | @cons d2 ds v2 vs r2 rs =>
        cases rs with
        | cons _ _ => exact False.elim pp
        | nil => exact ⟨v, v2, rfl, pp W1 H1 _ Pre.refl (((rel.step l1 w1).set (of_decide_eq_true h1) r).set (by rw [List.length_set]; exact of_decide_eq_true h2) r2)⟩
  · exact False.elim h
theorem ixN_lt {n : Nat} {i : Int} {j : Nat} (h : ixN n i = some j) : j < n := (ixN_seq h).2.1
theorem ds_sub {o i e : Expr} {fe fo fi : Ev → Sto → R Lw.D} {p pos : Pos} (S : Sok X g C ev E N sc Xw k) (hi : notSlice i = true) (he : PE X e (tE X.K E Xw fe)) (ho : PE X o (tE X.K E Xw fo)) (hx : PE X i (tE X.K E Xw fi)) :
    PS X (.Assign [.Subscript o i p] e pos) (tS X.K E Xw fun ρ S => (fe ρ S).run ρ fun v S1 => (fo ρ S1).run ρ fun x S2 => (fi ρ S2).run ρ fun j S3 => (match x, j with
            | .ref a, .int j => (match storeD a j v S3 with
              | some S4 => .nx ρ S4
              | none => .bad)
            | _, _ => .bad)) := by
  have hs : swapsWithSole [.Subscript o i p] e pos.line X.env = pure false := by
    show swapsWith e (some (.Subscript o i p)) pos.line X.env = pure false
    cases e <;> rfl
  have hw : swappedStores [.Subscript o i p] e X.env = pure none := by cases e <;> rfl
  refine (ps_asg he (pg_sub ho hx set_list (by intro v; cases i <;> first | rfl | cases hi)) hs hw rfl).wk fun D σ H ⟨W, ρ, S0, rel, h⟩ => ⟨W, ρ, S0, rel, (ORes.run rel h).mono fun d S1 W1 H1 l1 w1 pp v rv => ?_⟩
  have rel1 := rel.step l1 w1
  refine ⟨W1, ρ, S1, rel1, (ORes.run rel1 pp).mono fun x S2 W2 H2 l2 w2 p2 xv rx => ?_⟩
  have rel2 := rel1.step l2 w2
  refine ⟨W2, ρ, S2, rel2, (ORes.run rel2 p2).mono fun j S3 W3 H3 l3 w3 p3 jv rj => ?_⟩
  have rel3 := rel2.step l3 w3
  have rx3 := rx.pre (l3.pre w2)
  cases rx3 with
  | @ref a ha =>
    cases rj with
    | int jj =>
      obtain ⟨om, hom, hm⟩ := w3.there ha
      cases om with
      | lst ds =>
        obtain ⟨vs, hv, rvs⟩ := hm
        have p4 : ORes X.K E Xw W3 H3 (match (ixN ds.length jj).map (fun k => S3.set a (.lst (ds.set k d))) with
              | some S4 => .nx ρ S4
              | none => .bad) D := by
          have e0 : storeD a jj d S3 = (ixN ds.length jj).map (fun k => S3.set a (.lst (ds.set k d))) := by unfold storeD; rw [hom]
          rw [← e0]; exact p3
        cases hk : ixN ds.length jj with
        | none => rw [hk] at p4; exact False.elim p4
        | some kk =>
          rw [hk] at p4
          have hk2 : ixN vs.length jj = some kk := by rw [← rvs.length]; exact hk
          refine ⟨_, vs, jj, kk, rfl, rfl, hv, hk2, ?_⟩
          have lz : (vs.set kk v).length ≤ sizeLine := by rw [List.length_set]; exact w3.wf _ _ (.inl hv)
          have rv3 := (rv.pre (l2.pre w1)).pre (l3.pre w2)
          exact p4 W3 _ σ (sto_pre w3 ha) (rel3.writeSto ha lz (Reps.set kk rv3 rvs))
    | _ => exact False.elim p3
  | _ => exact False.elim p3
def rAug (op : Operator) : TIp := fun x y H Q => ∃ (K : PySem.W.Frag) (W : Wd) (a b d : Lw.D), Rep K W H a x ∧ Rep K W H b y ∧ augD op a b = some d ∧ ∀ v, (∀ W2 H2, Rep K W2 H2 d v) → Q v H
theorem ip_aug (op : Operator) : PIp X op (rAug op) := by
  intro pins s σ H x y v u Q I r1 r2 h
  obtain ⟨K, W, a, b, d, ra, rb, e, f⟩ := h
  unfold augD at e
  split at e
  · cases ra; cases rb; cases e
    exact ip_add pins s σ H _ _ v u Q I r1 r2 ⟨_, _, rfl, rfl, f _ fun _ _ => .int _⟩
  · cases ra; cases rb; cases e
    exact ip_sub pins s σ H _ _ v u Q I r1 r2 ⟨_, _, rfl, rfl, f _ fun _ _ => .int _⟩
  · cases ra; cases rb
    split at e
    · rename_i hz
      cases e
      exact iop_add_str pins s σ H _ _ v u Q I r1 r2 ⟨_, _, rfl, rfl, by rw [size_line]; exact hz, f _ fun _ _ => .str _⟩
    · cases e
  · cases e
theorem ds_aug {x : Str} {e : Expr} {fe : Ev → Sto → R Lw.D} {op : Operator} {p pos : Pos} (S : Sok X g C ev E N sc Xw k) (hl : locB sc x = true) (hn : ixOf N x < N.length) (he : PE X e (tE X.K E Xw fe)) :
    PS X (.AugAssign (.Name x p) op e pos) (tS X.K E Xw fun ρ S => if ixOf N x < ρ.length then (match getSl ρ (ixOf N x) with
          | .val d0 => (fe ρ S).run ρ fun d S1 => (match augD op d0 d with
            | some d2 => .nx (ρ.set (ixOf N x) (.val d2)) S1
            | none => .bad)
          | _ => .bad) else .bad) := by
  obtain ⟨h1, h2⟩ := S.tok.loc x hl
  refine (ps_aug (by rw [S.c.hN]; exact S.c.nd) (by rw [S.c.hN]; exact ix_ok hn) h1 he (ip_aug op) h2).wk fun D σ H ⟨W, ρ, S0, rel, h⟩ => ?_
  dsimp only at h
  split at h
  · rename_i hi
    split at h
    · rename_i d0 hd
      obtain ⟨v0, hv, r0⟩ := rel.val _ _ hd
      refine ⟨v0, hv, W, ρ, S0, rel, (ORes.run rel h).mono fun d S1 W1 H1 l1 w1 pp v rv => ?_⟩
      cases z : augD op d0 d with
      | none => rw [z] at pp; exact False.elim pp
      | some d2 =>
        rw [z] at pp
        exact ⟨X.K, W1, d0, d, d2, r0.pre (l1.pre rel.ws), rv, z, fun v2 r2 => pp W1 H1 _ Pre.refl ((rel.step l1 w1).set hi (r2 _ _))⟩
    · exact False.elim h
  · exact False.elim h
/-- x.append(e) -/
theorem ds_app {x : Str} {a : Expr} {fe : Ev → Sto → R Lw.D} {p ap cp pos : Pos} (S : Sok X g C ev E N sc Xw k) (hl : locB sc x = true) (hpn : plainName x = true) (hn : ixOf N x < N.length) (hline : (ap.endLine == cp.line) = true) (hs : notStar a = true) (he : PE X a (tE X.K E Xw fe)) :
    PS X (.Expr (.Call (.Attribute (.Name x p) "append" ap) [a] [] cp) pos) (tS X.K E Xw fun ρ S => (match getSl ρ (ixOf N x) with
            | .own ds => (fe ρ S).run ρ fun d S1 => if ds.length < LINE then .nx (ρ.set (ixOf N x) (.own (ds ++ [d]))) S1 else .bad
            | _ => .bad)) := by
  obtain ⟨n1, n2, _⟩ := plain3 hpn
  obtain ⟨h1, h2⟩ := S.tok.loc x hl
  have hv : Vis X.env.scope x := by rcases h1 with q | q; exact .inl q; exact .inr (.inl q)
  have hst : starEach [a] X.env = (false, eval a X.env) :: starEach [] X.env := star_ok hs
  have hpe : PE X (.Call (.Attribute (.Name x p) "append" ap) [a] [] cp) (tBM X.K "list" rAppend (tVar (ixOf N x)) (tCons (tE X.K E Xw fe) tNil)) :=
    pe_bm PySem.F.plainAttrs_list PySem.F.slot_list_append PySem.F.type_list_append mt_append (pe_var (by rw [S.c.hN]; exact ix_ok hn) hv n1 n2) (pa_cons he pa_nil hst) rfl (by rw [hst] <;> rfl) hline hst rfl
  refine (ps_expr hpe rfl).wk fun D σ H ⟨W, ρ, S0, rel, h⟩ => ?_
  dsimp only at h
  split at h
  · rename_i ds hd
    obtain ⟨t, ht, hown⟩ := rel.own _ _ hd
    obtain ⟨vs, hh, hE⟩ := hown.held
    refine ⟨.ref t, ht, .inl ⟨rfl, vs, SqL.of hh.at_⟩, W, ρ, S0, rel, (ORes.run rel h).mono fun d S1 W1 H1 l1 w1 pp v rv => ?_⟩
    split at pp
    · rename_i hz
      have rel1 := rel.step l1 w1
      have hh1 := hh.le rel.ws l1
      have lz : vs.length < sizeLine := by rw [size_line, ← hh1.reps.length]; exact hz
      refine ⟨t, vs, v, rfl, rfl, hh1.at_, lz, ?_⟩
      exact pp W1 _ σ (own_pre hh1) (rel1.writeOwn hd ht hh1 hE (by rw [List.length_append]; exact lz) (hh1.reps.append (Reps.one rv)))
    · exact False.elim pp
  · exact False.elim h
/-! ### for -/
theorem ds_for {tg it : Expr} {body : List Stmt} {fi : Ev → Sto → R (List Lw.D)} {fb : Ev → Sto → O} {pos : Pos} (S : Sok X g C ev E N sc Xw k) (hi : PI X tg it (tI X.K E Xw fi)) (hb : PSs X body (tS X.K E Xw fb)) (hs : notSet it = true) :
    PS X (.For tg it body [] pos) (tS X.K E Xw fun ρ S => (fi ρ S).run ρ fun ds S1 => forL (fun d ρ1 S2 => match asgT N sc n tg d ρ1 with
          | some ρ2 => fb ρ2 S2
          | none => .bad) ds ρ S1) := by
  refine (ps_for S.hp S.c.calm hi ((tgt_ok (E := E) S.tok n).1 tg) hb (fold_ok hs)).wk fun D σ H ⟨W, ρ, S0, rel, h⟩ => ⟨W, ρ, S0, rel, (ORes.run rel h).mono fun ds S1 W1 H1 l1 w1 p J wk => ?_⟩
  have rel1 := rel.step l1 w1
  generalize hbody : (fun (d : Lw.D) (ρ1 : Ev) (S2 : Sto) => (match asgT N sc n tg d ρ1 with
          | some ρ2 => fb ρ2 S2
          | none => (.bad : O))) = body' at p
  have key : ∀ i m σ H', (m = ds.length - i ∧ i ≤ ds.length ∧ ∃ W' ρ' S', Pre X.K W1 H1 W' H' ∧ Rel X.K E W' H' ρ' σ S' ∧ ORes X.K E Xw W' H' (forL body' (ds.drop i) ρ' S') D) →
      (J.stop i H' ∧ D.nx σ H') ∨ (J.go i H' ∧ ∃ Nx : L2.St → Hp → Prop, (∀ σ' H', Nx σ' H' → ∃ m', m' < m ∧ (m' = ds.length - (i + 1) ∧ i + 1 ≤ ds.length ∧ ∃ W' ρ' S', Pre X.K W1 H1 W' H' ∧ Rel X.K E W' H' ρ' σ' S' ∧ ORes X.K E Xw W' H' (forL body' (ds.drop (i + 1)) ρ' S') D)) ∧
        ∀ x H'', J.yld i H' x H'' → tG X.K E (asgT N sc n tg) (tgtIx N n tg) x σ H'' fun σ2 H2 => tS X.K E Xw fb { D with nx := Nx, ct := Nx, bk := D.nx } σ2 H2) := by
    rintro i m σ H' ⟨rfl, hile, W', ρ', S', pre, rel', r⟩
    obtain ⟨item, stop⟩ := wk W' H' S' pre rel'.ws
    by_cases hlt : i < ds.length
    · obtain ⟨go, yl⟩ := item i ds[i] (List.getElem?_eq_getElem hlt)
      refine .inr ⟨go, fun σ' H' => i + 1 ≤ ds.length ∧ ∃ W' ρ' S', Pre X.K W1 H1 W' H' ∧ Rel X.K E W' H' ρ' σ' S' ∧ ORes X.K E Xw W' H' (forL body' (ds.drop (i + 1)) ρ' S') D, fun σ' H' h => ⟨ds.length - (i + 1), by omega, rfl, h⟩, fun x H2 y => ?_⟩
      obtain ⟨W2, l2, w2, rx⟩ := yl x H2 y
      have rel2 := rel'.step l2 w2
      rw [List.drop_eq_getElem_cons hlt] at r
      have r2 : ORes X.K E Xw W' H' (match body' ds[i] ρ' S' with
        | .nx ρ1 S1 => forL body' (ds.drop (i + 1)) ρ1 S1
        | .cnt ρ1 S1 => forL body' (ds.drop (i + 1)) ρ1 S1
        | .brk ρ1 S1 => .nx ρ1 S1
        | o => o) D := r
      have eb : body' ds[i] ρ' S' = (match asgT N sc n tg ds[i] ρ' with
          | some ρ2 => fb ρ2 S'
          | none => (.bad : O)) := by rw [← hbody]
      rw [eb] at r2
      cases hf : asgT N sc n tg ds[i] ρ' with
      | none => rw [hf] at r2; exact False.elim r2
      | some ρ2 =>
        rw [hf] at r2
        dsimp only at r2
        refine ⟨W2, ρ', S', ds[i], ρ2, rel2, rx, hf, fun σ2 rel3 _ _ => ⟨W2, ρ2, S', rel3, ?_⟩⟩
        have p2 := l2.pre rel'.ws
        cases hr : fb ρ2 S' with
        | nx ρ3 S3 =>
          rw [hr] at r2
          exact fun W3 H3 σ3 p3 rel4 => ⟨hlt, W3, ρ3, S3, (pre.trans p2).trans p3, rel4, ORes.pre (p2.trans p3) r2⟩
        | cnt ρ3 S3 =>
          rw [hr] at r2
          exact fun W3 H3 σ3 p3 rel4 => ⟨hlt, W3, ρ3, S3, (pre.trans p2).trans p3, rel4, ORes.pre (p2.trans p3) r2⟩
        | brk ρ3 S3 =>
          rw [hr] at r2
          exact fun W3 H3 σ3 p3 rel4 => r2 W3 H3 σ3 (p2.trans p3) rel4
        | ret d S3 => rw [hr] at r2; exact r2
        | err c ρ3 S3 => rw [hr] at r2; exact r2
        | bad => rw [hr] at r2; exact False.elim r2
    · have e : i = ds.length := by omega
      subst e
      rw [List.drop_length] at r
      exact .inl ⟨stop, r W' H' σ Pre.refl rel'⟩
  exact ⟨fun i m σ H' => m = ds.length - i ∧ i ≤ ds.length ∧ ∃ W' ρ' S', Pre X.K W1 H1 W' H' ∧ Rel X.K E W' H' ρ' σ S' ∧ ORes X.K E Xw W' H' (forL body' (ds.drop i) ρ' S') D, ⟨ds.length, by omega, Nat.zero_le _, W1, ρ, S1, Pre.refl, rel1, p⟩, key⟩
end
end Lw
set_option maxHeartbeats 2000000
/-! LwJ: the evaluator is right for all statements, for all defs. -/
namespace Lw
open PySem PySem.Spec PyProof.Rows L2
section
variable {g : G} {C : Call} {ev : Str → Value} {E : Ent} {N : List Str} {k n : Nat} {X : Cx} {sc : Scope} {Xw : Str → L2.St → Hp → Prop}
theorem blockKind_fn {env : Env} (h : env.scope.kind = .function) : env.blockKind = .function := by
  unfold Env.blockKind
  rw [h]
  rfl
theorem sw_some {env : Env} {x y : Str} {a b : Expr} {p q pt pt2 : Pos} {kt k2 : Nat} (hsc : env.scope = sc) (hk : sc.kind = .function) (h : swapB sc [.Name x p, .Name y q] (.Tuple [a, b] k2 pt2) = true) :
    swappedStores [.Tuple [.Name x p, .Name y q] kt pt] (.Tuple [a, b] k2 pt2) env = pure (some [x, y]) := by
  simp only [swapB, Bool.and_eq_true, Bool.not_eq_true'] at h
  obtain ⟨⟨⟨⟨⟨⟨⟨hx, hy⟩, hl⟩, hxy⟩, ha⟩, hb⟩, hf⟩, hc⟩ := h
  have hk' := blockKind_fn (env := env) (by rw [hsc]; exact hk)
  have lx : env.kindOf x = some .local := by
    unfold Env.kindOf; rw [hsc]; unfold isLocB kindB at hx; split at hx <;> first | assumption | cases hx
  have ly : env.kindOf y = some .local := by
    unfold Env.kindOf; rw [hsc]; unfold isLocB kindB at hy; split at hy <;> first | assumption | cases hy
  have sa : ∀ e : Expr, notStar e = true → (match e with | .Starred .. => true | _ => false) = false := by
    intro e he; cases e <;> first | rfl | cases he
  unfold swappedStores
  simp only [List.any_cons, List.any_nil, sa a ha, sa b hb, hk', List.head?, Option.map, Option.getD, Expr.pos, List.filterMap_cons, List.filterMap_nil, lx, ly, hf, hc, hl]
  have e1 : ([x, y] : List Str).eraseDups = [x, y] := by
    have hne : (y == x) = false := by
      cases z : (y == x) with
      | false => rfl
      | true => rw [beq_iff_eq] at z; rw [z] at hxy; simp at hxy
    simp [List.eraseDups_cons, hne]
  simp [e1]
  intro h
  exfalso
  rcases h with h | h
  · cases a <;> first | (cases h; done) | cases ha
  · cases b <;> first | (cases h; done) | cases hb
theorem isLoc_iff {env : Env} {x : Str} (hsc : env.scope = sc) : (env.kindOf x == some .local) = isLocB sc x := by
  unfold Env.kindOf isLocB kindB
  rw [hsc]
  cases sc.names.lookup x with
  | none => rfl
  | some y => cases y <;> rfl
theorem sw_no {env : Env} {tg : List Expr} {e : Expr} {p : Pos} {kt : Nat} (hsc : env.scope = sc) (h : swapN sc tg e = true) :
    swappedStores [.Tuple tg kt p] e env = pure none := by
  cases e with
  | Tuple vs k2 pt2 =>
    unfold swapN at h
    dsimp only at h
    split at h
    · rename_i x px y py
      unfold swappedStores
      dsimp only
      simp only [List.filterMap_cons, List.filterMap_nil, isLoc_iff hsc]
      by_cases hl : py.line = px.line
      · cases hx : isLocB sc x with
        | false => cases isLocB sc y <;> simp [Expr.pos, hl]
        | true =>
          cases hy : isLocB sc y with
          | false => simp [Expr.pos, hl]
          | true =>
            rw [hx, hy] at h
            have hv : vs.all (foldedForSure 8) = true := h
            simp [Expr.pos, hl, hv]
      · cases isLocB sc x <;> cases isLocB sc y <;> simp [Expr.pos, hl]
    · cases h
  | _ => rfl
theorem sSs {f f' : Ev → Sto → O} (h : ∀ ρ S, f ρ S = f' ρ S) {st : List Stmt} (q : PSs X st (tS X.K E Xw f')) : PSs X st (tS X.K E Xw f) := by
  have e : f = f' := by funext ρ S; exact h ρ S
  rw [e]; exact q
structure SndS (g : G) (C : Call) (ev : Str → Value) (E : Ent) (N : List Str) (k n : Nat) : Prop where
  s : ∀ {X : Cx} {sc : Scope} {Xw : Str → L2.St → Hp → Prop} (boxy : Bool), Sok X g C ev E N sc Xw k → ∀ st, PS X st (tS X.K E Xw (exS g C N boxy n sc st))
  ss : ∀ {X : Cx} {sc : Scope} {Xw : Str → L2.St → Hp → Prop} (boxy : Bool), Sok X g C ev E N sc Xw k → ∀ sts, PSs X sts (tS X.K E Xw (exSs g C N boxy n sc sts))
theorem if_and {p q : Prop} [Decidable p] [Decidable q] {α : Type} {a b : α} (h : p) : (if p ∧ q then a else b) = if q then a else b := by
  by_cases hq : q
  · rw [if_pos ⟨h, hq⟩, if_pos hq]
  · rw [if_neg (fun z => hq z.2), if_neg hq]
/-- a store to a name: the place is known where the reading is -/
theorem st_name {st : Stmt} {x : Str} {xs : List Str} {f : Ev → Sto → O} (S : Sok X g C ev E N sc Xw k)
    (q : ixOf N x < N.length → PS X st (tS X.K E Xw fun ρ S => if ixOf N x < ρ.length then f ρ S else .bad)) :
    PS X st (tS X.K E Xw fun ρ0 S => if ixOf N x < (freeze N xs ρ0).length then f (freeze N xs ρ0) S else .bad) :=
  ps_at (x := x) S (fun ρ S h => by rw [if_neg (by rw [freeze_len]; exact h)]) fun hn => fr_S (f := fun ρ S => if ixOf N x < ρ.length then f ρ S else .bad) (q hn)
theorem s_assign (S : Sok X g C ev E N sc Xw k) (boxy : Bool) (ts : List Expr) (e : Expr) (pos : Pos) : PS X (.Assign ts e pos) (tS X.K E Xw (exS g C N boxy (n + 1) sc (.Assign ts e pos))) := by
  have none_ : (∀ ρ S, exS g C N boxy (n + 1) sc (.Assign ts e pos) ρ S = .bad) → PS X (.Assign ts e pos) (tS X.K E Xw (exS g C N boxy (n + 1) sc (.Assign ts e pos))) := no_badS
  match ts, none_ with
  | [], nb => exact nb fun ρ S => by simp only [exS]
  | _ :: _ :: _, nb => exact nb fun ρ S => by simp only [exS]
  | [t], nb =>
    by_cases h1 : ∃ x p, t = .Name x p
    · obtain ⟨x, p, rfl⟩ := h1
      by_cases hl : locB sc x = true
      · by_cases hc : ∃ es lp, e = .List es lp
        · obtain ⟨es, lp, rfl⟩ := hc
          by_cases hs : es.all notStar = true
          · refine sS (f' := fun ρ0 S => if ixOf N x < (freeze N (gens n (.List es lp)) ρ0).length then (evA g C N n sc es (freeze N (gens n (.List es lp)) ρ0) S).run (freeze N (gens n (.List es lp)) ρ0) fun ds S1 => if ds.length ≤ LINE then .nx ((freeze N (gens n (.List es lp)) ρ0).set (ixOf N x) (.own ds)) S1 else .bad else .bad)
              (fun ρ S => by simp [exS, hl, hs]) ?_
            exact st_name (x := x) (f := fun ρ S => (evA g C N n sc es ρ S).run ρ fun ds S1 => if ds.length ≤ LINE then .nx (ρ.set (ixOf N x) (.own ds)) S1 else .bad) S fun hn => ds_own S hl hn ((snd_n g C ev E N k n).a S.c es hs)
          · exact nb fun ρ S => by simp [exS, hl, hs]
        · refine sS (f' := fun ρ0 S => if ixOf N x < (freeze N (gens n e) ρ0).length then (evE g C N n sc e (freeze N (gens n e) ρ0) S).run (freeze N (gens n e) ρ0) fun d S1 => .nx ((freeze N (gens n e) ρ0).set (ixOf N x) (.val d)) S1 else .bad)
            (fun ρ S => by cases e <;> first | (exact absurd ⟨_, _, rfl⟩ hc) | simp [exS, hl]) ?_
          exact st_name (x := x) (f := fun ρ S => (evE g C N n sc e ρ S).run ρ fun d S1 => .nx (ρ.set (ixOf N x) (.val d)) S1) S fun hn => ds_val S hl hn
      · exact nb fun ρ S => by simp [exS, hl]
    by_cases h2 : ∃ tg kt p, t = .Tuple tg kt p
    · obtain ⟨tg, kt, p, rfl⟩ := h2
      by_cases hw : swapB sc tg e = true
      · by_cases hsh : ∃ x px y py a b k2 pt2, tg = [.Name x px, .Name y py] ∧ e = .Tuple [a, b] k2 pt2
        · obtain ⟨x, px, y, py, a, b, k2, pt2, rfl, rfl⟩ := hsh
          have hw2 := hw
          simp only [swapB, Bool.and_eq_true, Bool.not_eq_true'] at hw2
          obtain ⟨⟨⟨⟨⟨⟨⟨hx, hy⟩, hl⟩, hxy⟩, ha⟩, hb⟩, hf⟩, hcc⟩ := hw2
          refine sS (f' := fun ρ0 S => (fun ρ S => if decide (ixOf N x < ρ.length) && decide (ixOf N y < ρ.length) then (evA g C N n sc [a, b] ρ S).run ρ fun ds S1 => (match ds with
              | [d1, d2] => .nx ((ρ.set (ixOf N x) (.val d1)).set (ixOf N y) (.val d2)) S1
              | _ => .bad) else .bad) (freeze N (gens n (.Tuple [a, b] k2 pt2)) ρ0) S) (fun ρ S => by simp [exS, hw, ha, hb] <;> rfl) ?_
          refine ps_at (x := x) S (fun ρ S h => by simp [freeze_len, h]) fun hnx => ps_at (x := y) S (fun ρ S h => by simp [freeze_len, h]) fun hny => fr_S (f := fun ρ S => if decide (ixOf N x < ρ.length) && decide (ixOf N y < ρ.length) then (evA g C N n sc [a, b] ρ S).run ρ fun ds S1 => (match ds with
              | [d1, d2] => .nx ((ρ.set (ixOf N x) (.val d1)).set (ixOf N y) (.val d2)) S1
              | _ => .bad) else .bad) (ds_par S hx hy hxy hnx hny (sw_some S.c.hsc S.kind hw) ((snd_n g C ev E N k n).a S.c [a, b] (by simp [ha, hb])))
        · exfalso
          unfold swapB at hw
          split at hw
          · exact hsh ⟨_, _, _, _, _, _, _, _, rfl, rfl⟩
          · cases hw
      · by_cases hn : swapN sc tg e = true
        · refine sS (f' := fun ρ0 S => (fun ρ S => (evE g C N n sc e ρ S).run ρ fun d S1 => (match asgT N sc n (.Tuple tg kt p) d ρ with
          | some ρ1 => .nx ρ1 S1
          | none => .bad)) (freeze N (gens n e) ρ0) S) (fun ρ S => by simp [exS, hw, hn] <;> rfl) (fr_S (ds_tup S (sw_no S.c.hsc hn)))
        · exact nb fun ρ S => by simp [exS, hw, hn]
    by_cases h3 : ∃ o i p, t = .Subscript o i p
    · obtain ⟨o, i, p, rfl⟩ := h3
      by_cases hi : notSlice i = true
      · refine sS (f' := fun ρ0 S => (fun ρ S => (evE g C N n sc e ρ S).run ρ fun v S1 => (evE g C N n sc o ρ S1).run ρ fun x S2 => (evE g C N n sc i ρ S2).run ρ fun j S3 => (match x, j with
            | .ref a, .int j => (match storeD a j v S3 with
              | some S4 => .nx ρ S4
              | none => .bad)
            | _, _ => .bad)) (freeze N (gens n e ++ gens n i) ρ0) S) (fun ρ S => by cases i <;> first | (cases hi; done) | rfl) (fr_S (ds_sub S hi ((snd_n g C ev E N k n).e S.c e) ((snd_n g C ev E N k n).e S.c o) ((snd_n g C ev E N k n).e S.c i)))
      · exact nb fun ρ S => by cases i <;> first | (exact absurd rfl hi) | rfl
    exact nb fun ρ S => by cases t <;> first | (exact absurd ⟨_, _, rfl⟩ h1) | (exact absurd ⟨_, _, _, rfl⟩ h2) | (exact absurd ⟨_, _, _, rfl⟩ h3) | rfl
theorem s_aug (S : Sok X g C ev E N sc Xw k) (boxy : Bool) (t : Expr) (op : Operator) (e : Expr) (pos : Pos) : PS X (.AugAssign t op e pos) (tS X.K E Xw (exS g C N boxy (n + 1) sc (.AugAssign t op e pos))) := by
  by_cases h1 : ∃ x p, t = .Name x p
  · obtain ⟨x, p, rfl⟩ := h1
    by_cases hl : locB sc x = true
    · refine sS (f' := fun ρ0 S => if ixOf N x < (freeze N (gens n e) ρ0).length then (fun ρ S => (match getSl ρ (ixOf N x) with
          | .val d0 => (evE g C N n sc e ρ S).run ρ fun d S1 => (match augD op d0 d with
            | some d2 => .nx (ρ.set (ixOf N x) (.val d2)) S1
            | none => .bad)
          | _ => .bad)) (freeze N (gens n e) ρ0) S else .bad) (fun ρ S => by simp [exS, hl] <;> rfl) ?_
      exact st_name (x := x) (f := fun ρ S => (match getSl ρ (ixOf N x) with
          | .val d0 => (evE g C N n sc e ρ S).run ρ fun d S1 => (match augD op d0 d with
            | some d2 => .nx (ρ.set (ixOf N x) (.val d2)) S1
            | none => .bad)
          | _ => .bad)) S fun hn => ds_aug S hl hn ((snd_n g C ev E N k n).e S.c e)
    · exact no_badS fun ρ S => by simp [exS, hl]
  · exact no_badS fun ρ S => by cases t <;> first | (exact absurd ⟨_, _, rfl⟩ h1) | rfl
theorem s_expr0 (S : Sok X g C ev E N sc Xw k) (e : Expr) (pos : Pos) (hc : noComp e = true) : PS X (.Expr e pos) (tS X.K E Xw fun ρ0 S => (fun ρ S => (evE g C N n sc e ρ S).run ρ fun _ S1 => .nx ρ S1) (freeze N (gens n e) ρ0) S) :=
  fr_S (ds_expr (sw_none hc _) ((snd_n g C ev E N k n).e S.c e))
theorem s_expr (S : Sok X g C ev E N sc Xw k) (boxy : Bool) (e : Expr) (pos : Pos) : PS X (.Expr e pos) (tS X.K E Xw (exS g C N boxy (n + 1) sc (.Expr e pos))) := by
  by_cases h1 : ∃ x p m ap a cp, e = .Call (.Attribute (.Name x p) m ap) [a] [] cp
  · obtain ⟨x, p, m, ap, a, cp, rfl⟩ := h1
    by_cases hm : m = "append"
    · subst hm
      by_cases hline : (ap.endLine == cp.line) = true
      · by_cases hs : notStar a = true
        · by_cases hl : locB sc x = true
          · by_cases hp : plainName x = true
            · refine sS (f' := fun ρ0 S => (fun ρ S => (match getSl ρ (ixOf N x) with
              | .own ds => (evE g C N n sc a ρ S).run ρ fun d S1 => if ds.length < LINE then .nx (ρ.set (ixOf N x) (.own (ds ++ [d]))) S1 else .bad
              | _ => .bad)) (freeze N (gens n a) ρ0) S) (fun ρ S => by unfold exS; simp only [hline, hs, hl, hp]; rfl) ?_
              refine ps_at (x := x) S (fun ρ S h => ?_) fun hn => fr_S (f := fun ρ S => (match getSl ρ (ixOf N x) with
              | .own ds => (evE g C N n sc a ρ S).run ρ fun d S1 => if ds.length < LINE then .nx (ρ.set (ixOf N x) (.own (ds ++ [d]))) S1 else .bad
              | _ => .bad)) (ds_app S hl hp hn hline hs ((snd_n g C ev E N k n).e S.c a))
              have e0 : getSl (freeze N (gens n a) ρ) (ixOf N x) = .un := by
                unfold getSl
                rw [List.getD_eq_getElem?_getD, List.getElem?_eq_none (by rw [freeze_len]; exact Nat.le_of_not_lt h)]
                rfl
              simp only [e0]
            · exact no_badS fun ρ S => by unfold exS; simp only [hline, hs, hl, hp]; rfl
          · exact no_badS fun ρ S => by unfold exS; simp only [hline, hs, hl]; rfl
        · exact no_badS fun ρ S => by unfold exS; simp only [hline, hs]; rfl
      · exact no_badS fun ρ S => by unfold exS; simp only [hline]; rfl
    · exact no_badS fun ρ S => by unfold exS; simp only [hm]; rfl
  · by_cases hc : noComp e = true
    · refine sS (fun ρ S => ?_) (s_expr0 (n := n) S e pos hc)
      unfold exS
      dsimp only
      split
      · exact absurd ⟨_, _, _, _, _, _, rfl⟩ h1
      · rw [if_neg (by rw [hc]; exact Bool.false_ne_true)]
    · refine no_badS fun ρ S => ?_
      unfold exS
      dsimp only
      split
      · exact absurd ⟨_, _, _, _, _, _, rfl⟩ h1
      · have hc' : noComp e = false := by cases z : noComp e; rfl; exact absurd z hc
        rw [hc']; rfl
theorem s_ret (S : Sok X g C ev E N sc Xw k) (boxy : Bool) (v : Option Expr) (pos : Pos) : PS X (.Return v pos) (tS X.K E Xw (exS g C N boxy (n + 1) sc (.Return v pos))) := by
  cases v with
  | none => exact sS (fun ρ S => by simp only [exS]) ds_ret0
  | some e =>
    by_cases hb : boxy = true ∧ ∃ es lp, e = .List es lp
    · obtain ⟨rfl, es, lp, rfl⟩ := hb
      by_cases hs : es.all notStar = true
      · exact sS (f' := fun ρ0 S => (fun ρ S => (evA g C N n sc es ρ S).run ρ fun ds S1 => if ds.length ≤ LINE then .ret (.ref S1.length) (S1 ++ [.lst ds]) else .bad) (freeze N (gens n (.List es lp)) ρ0) S) (fun ρ S => by simp [exS, hs]) (fr_S (ds_retBox ((snd_n g C ev E N k n).a S.c es hs)))
      · exact no_badS fun ρ S => by simp [exS, hs]
    · refine sS (f' := fun ρ0 S => (fun ρ S => (evE g C N n sc e ρ S).run ρ fun d S1 => .ret d S1) (freeze N (gens n e) ρ0) S) (fun ρ S => ?_) (fr_S (ds_ret ((snd_n g C ev E N k n).e S.c e)))
      cases boxy with
      | false => cases e <;> rfl
      | true => cases e <;> first | (exact absurd ⟨rfl, _, _, rfl⟩ hb) | rfl
theorem s_for (S : Sok X g C ev E N sc Xw k) (ih : SndS g C ev E N k n) (boxy : Bool) (tg it : Expr) (body els : List Stmt) (pos : Pos) : PS X (.For tg it body els pos) (tS X.K E Xw (exS g C N boxy (n + 1) sc (.For tg it body els pos))) := by
  cases els with
  | cons a b => exact no_badS fun ρ S => rfl
  | nil =>
    by_cases hs : notSet it = true
    · exact sS (f' := fun ρ0 S => (fun ρ S => (evI g C N n sc tg it ρ S).run ρ fun ds S1 => forL (fun d ρ1 S2 => match asgT N sc n tg d ρ1 with
          | some ρ2 => exSs g C N boxy n sc body ρ2 S2
          | none => .bad) ds ρ S1) (freeze N (gens n it) ρ0) S) (fun ρ S => by simp only [exS, hs]; rfl) (fr_S (ds_for S ((snd_n g C ev E N k n).it S.c tg it) (ih.ss boxy S body) hs))
    · exact no_badS fun ρ S => by simp only [exS, hs]; rfl
theorem s_raise (S : Sok X g C ev E N sc Xw k) (boxy : Bool) (a b : Option Expr) (pos : Pos) : PS X (.Raise a b pos) (tS X.K E Xw (exS g C N boxy (n + 1) sc (.Raise a b pos))) := by
  by_cases h1 : ∃ c p q, a = some (.Call (.Name c p) [] [] q) ∧ b = none
  · obtain ⟨c, p, q, rfl, rfl⟩ := h1
    by_cases hc : (g.exc c && glB sc c && plainName c) = true
    · have h2 := hc
      simp only [Bool.and_eq_true] at h2
      exact sS (fun ρ S => by simp only [exS, hc, if_true]) (ds_raise S h2.1.1 h2.1.2 h2.2)
    · exact no_badS fun ρ S => by simp only [exS, hc]; rfl
  · refine no_badS fun ρ S => ?_
    unfold exS
    dsimp only
    split
    · exact absurd ⟨_, _, _, rfl, rfl⟩ h1
    · rfl
theorem sndS_n (g : G) (C : Call) (ev : Str → Value) (E : Ent) (N : List Str) (k : Nat) : ∀ n, SndS g C ev E N k n := by
  intro n
  induction n with
  | zero => exact ⟨fun _ _ st => no_badS fun _ _ => rfl, fun _ _ st => no_badSs fun _ _ => rfl⟩
  | succ n ih =>
    refine ⟨fun {X} {sc} {Xw} boxy S st => ?_, fun {X} {sc} {Xw} boxy S sts => ?_⟩
    · cases st with
      | Assign ts e pos => exact s_assign S boxy ts e pos
      | AugAssign t op e pos => exact s_aug S boxy t op e pos
      | Expr e pos => exact s_expr S boxy e pos
      | Return v pos => exact s_ret S boxy v pos
      | If c a b pos => exact sS (f' := fun ρ0 S => (fun ρ S => (evTest g C N n sc c ρ S).run ρ fun t S1 => if t then exSs g C N boxy n sc a ρ S1 else exSs g C N boxy n sc b ρ S1) (freeze N (gens n c) ρ0) S) (fun ρ S => by simp only [exS]) (fr_S (ds_if ((snd_n g C ev E N k n).test S.c c) (ih.ss boxy S a) (ih.ss boxy S b)))
      | For tg it body els pos => exact s_for S ih boxy tg it body els pos
      | Pass pos => exact sS (fun ρ S => by simp only [exS]) ds_pass
      | Break pos => exact sS (fun ρ S => by simp only [exS]) ds_break
      | Continue pos => exact sS (fun ρ S => by simp only [exS]) ds_cont
      | Raise a b pos => exact s_raise S boxy a b pos
      | _ => exact no_badS fun _ _ => rfl
    · cases sts with
      | nil => exact sSs (fun ρ S => by simp only [exSs]) ds_nil
      | cons st sts => exact sSs (fun ρ S => by simp only [exSs]) (ds_cons (ih.s boxy S st) (ih.ss boxy S sts))
end
end Lw
set_option maxHeartbeats 2000000
/-! LwK: the evaluator is right for every def of a module. -/
namespace Lw
open PySem PySem.Spec PyProof.Rows L2

/-- a scope is that of a def with these slots -/
def scopeB (fd : Fd) : Bool := (match fd.sc.kind with | .function => true | _ => false) && !fd.sc.isCoroutine && !fd.sc.isGenerator && decide fd.N.Nodup && decide (fd.N.take fd.ps.length = fd.ps) &&
  fd.ps.all (locB fd.sc) && fd.sc.names.all fun y => (match y.2 with | .free => false | _ => true)
theorem scope_ok {fd : Fd} (h : scopeB fd = true) : FnScope fd.N fd.ps fd.sc := by
  unfold scopeB at h
  simp only [Bool.and_eq_true, Bool.not_eq_true', decide_eq_true_eq, List.all_eq_true] at h
  obtain ⟨⟨⟨⟨⟨⟨h1, h2⟩, h3⟩, h4⟩, h5⟩, h6⟩, h7⟩ := h
  refine ⟨?_, h2, h3, h4, h5, fun x hx => ?_, fun y hy z => ?_⟩
  · split at h1
    · assumption
    · cases h1
  · have q := h6 x hx
    unfold locB kindB at q
    split at q
    · exact .inl (by assumption)
    · exact .inr (by assumption)
    · cases q
  · have q := h7 y hy
    rw [z] at q
    cases q
/-- what the module gives -/
structure Mok (K : PySem.W.Frag) (mg : Str → Option Value) (g : G) (ev : Str → Value) : Prop where
  con : ∀ x d, g.con x = some d → ∃ u v, mg x = some u ∧ RelV v u ∧ ∀ W H, Rep K W H d v
  bis : ∀ x, g.bi x = true → mg x = none
  exc : ∀ x, g.exc x = true → ∃ Ca, mg x = some (.ref Ca) ∧ ev x = .ref Ca ∧ PySem.W.excIn K Ca He.veBase "ValueError.__new__" = true ∧ PySem.W.keepIn K (.ref Ca) = true ∧
    PySem.W.subIn K (.ref Ca) (.type "BaseException") = some true ∧ PySem.W.typeIn K (.ref Ca) = some (.type "type")
  fns : ∀ x fd, g.fn x = some fd → scopeB fd = true ∧ ∃ f fdat nm qn params, mg x = some (.ref f) ∧ FunD K nm qn params fd.body fd.sc [] [] f fdat ∧ Binds K fdat fd.ps [] ∧ ∀ (s : Shared) (us : List Value), us.length = fd.ps.length → BindsTo s fdat ⟨us, []⟩ (fd.ps.zip us)
section
variable {g : G} {ev : Str → Value} {P : Program} {w : World} {K : PySem.W.Frag} {mg : Str → Option Value} {base : Heap}
theorem callN_ar {x : Str} {fd : Fd} {ds : List D} {S : Sto} (h : g.fn x = some fd) : ∀ {k : Nat}, callN g k x ds S ≠ .bad → ds.length = fd.ps.length
  | 0, q => absurd rfl q
  | k + 1, q => by
    unfold callN at q
    rw [h] at q
    dsimp only at q
    unfold runFd at q
    by_cases z : ds.length = fd.ps.length
    · exact z
    · rw [if_neg z] at q; exact absurd rfl q
theorem start_rel {N : List Str} {vs : List V} {ds : List D} {W : Wd} {H : Hp} {S : Sto} (ws : WS K W H S) (r : Reps K W H ds vs) : Rel K ⟨W, H⟩ W H (startE N ds) (L2.start N vs) S where
  ws := ws
  le := ws.refl
  len := by
    unfold startE L2.start
    rw [List.length_append, List.length_append, List.length_map, List.length_map, List.length_replicate, List.length_replicate, r.length]
  val := fun i d e => by
    unfold startE getSl at e
    unfold L2.start
    rw [List.getD_eq_getElem?_getD] at e
    by_cases hi : i < ds.length
    · rw [List.getElem?_append_left (by rw [List.length_map]; exact hi), List.getElem?_map, List.getElem?_eq_getElem hi] at e
      cases e
      obtain ⟨v, h1, h2⟩ := r.get (List.getElem?_eq_getElem hi)
      refine ⟨v, ?_, h2⟩
      rw [List.getElem?_append_left (by rw [List.length_map, ← r.length]; exact hi), List.getElem?_map, h1]
      rfl
    · rw [List.getElem?_append_right (by rw [List.length_map]; exact Nat.le_of_not_lt hi), List.getElem?_replicate] at e
      split at e <;> cases e
  own := fun i d e => by
    exfalso
    unfold startE getSl at e
    rw [List.getD_eq_getElem?_getD] at e
    by_cases hi : i < ds.length
    · rw [List.getElem?_append_left (by rw [List.length_map]; exact hi), List.getElem?_map, List.getElem?_eq_getElem hi] at e
      cases e
    · rw [List.getElem?_append_right (by rw [List.length_map]; exact Nat.le_of_not_lt hi), List.getElem?_replicate] at e
      split at e <;> cases e
  apart := fun i j d es a e => by
    exfalso
    unfold startE getSl at e
    rw [List.getD_eq_getElem?_getD] at e
    by_cases hi : i < ds.length
    · rw [List.getElem?_append_left (by rw [List.length_map]; exact hi), List.getElem?_map, List.getElem?_eq_getElem hi] at e
      cases e
    · rw [List.getElem?_append_right (by rw [List.length_map]; exact Nat.le_of_not_lt hi), List.getElem?_replicate] at e
      split at e <;> cases e
/-- a body's end is the call's end -/
theorem fin_ores {W : Wd} {H : Hp} {o : O} {Q : VK} {Ex : XK} (h : Res K ⟨W, H⟩ (fun c _ H' => Ex (ev c) none H') W H [] [] o.fin fun d _ W' H' => ∀ v, Rep K W' H' d v → Q v H') :
    ORes K ⟨W, H⟩ (fun c _ H' => Ex (ev c) none H') W H o { nx := fun _ H' => Q .non H', rt := Q } := by
  cases o with
  | nx ρ S => exact fun W' H' σ' p r => h W' H' r.le r.ws _ .non
  | ret d S => exact fun W' H' l w v r => h W' H' l w v r
  | err c ρ S => exact fun W' H' σ' r => h W' H' r.le r.ws
  | brk ρ S => exact False.elim h
  | cnt ρ S => exact False.elim h
  | bad => exact False.elim h
/-- EVERY DEF keeps what the evaluator says -/
theorem fn_all (M : Mok K mg g ev) : ∀ (k : Nat) (x : Str) (fd : Fd) (f : Addr) (fdat : FuncData) (nm qn : Str) (params : Arguments), g.fn x = some fd → FunD K nm qn params fd.body fd.sc [] [] f fdat →
    FnOk P w K mg base (L2.CX P w) k f fdat fd.ps (spD K ev fd.ps.length (callN g k x)) := by
  intro k
  induction k with
  | zero =>
    intro x fd f fdat nm qn params hx F
    exact ⟨fun vs H Q E h => h.1, fun A outer s H args us vs Q E hr e0 hbb r ⟨_, W, S, ds, ws, rs, h⟩ => False.elim h⟩
  | succ k ih =>
    intro x fd f fdat nm qn params hx F
    have Sc := scope_ok (M.fns x fd hx).1
    refine F.ok Sc (fun vs H Q E h => h.1) fun cdv A outer s H vs Q Ex hr h => ?_
    obtain ⟨hl, W, S, ds, ws, rs, res⟩ := h
    have e1 : callN g (k + 1) x ds S = runFd g (callN g k) fd ds S := by
      show (match g.fn x with | some fd => runFd g (callN g k) fd ds S | none => .bad) = _
      rw [hx]
    rw [e1] at res
    unfold runFd at res
    rw [if_pos (rs.length.trans hl)] at res
    have sok : Sok (cxOf (L2.CX P w) P w K mg base fd.N qn fd.sc f cdv A outer s H Ex) g (callN g k) ev ⟨W, H⟩ fd.N fd.sc (fun c _ H' => Ex (ev c) none H') k := by
      refine ⟨⟨rfl, Sc.nd, rfl, rfl, hr, ?_, M.con, fun y fy hy => by
        obtain ⟨_, f2, fdat2, nm2, qn2, params2, hm2, F2, hb2⟩ := M.fns y fy hy
        exact ⟨f2, fdat2, hm2, F2.kp, hb2.1, ih y fy f2 fdat2 nm2 qn2 params2 hy F2⟩, M.bis, fun y fy ds S hy q => callN_ar hy q⟩, passes_of rfl, ⟨rfl, Sc.nd, rfl, fun y hy => ?_⟩, Sc.kind, M.exc⟩
      · refine (takes_of (E := Ex) rfl rfl rfl rfl).imp fun cls d σ H' ⟨c, h1, h2, h3⟩ => ?_
        rw [h1, h2]
        exact h3
      · refine ⟨?_, .inl rfl⟩
        unfold locB kindB at hy
        split at hy
        · rename_i q; exact .inl q
        · rename_i q; exact .inr q
        · cases hy
    exact ⟨_, (sndS_n g (callN g k) ev ⟨W, H⟩ fd.N k 60).ss fd.boxy sok fd.body, W, startE fd.N ds, S, start_rel ws rs, fin_ores res⟩
end
end Lw
set_option maxHeartbeats 2000000
/-! LwL: a law's end. -/
namespace Lw
open PySem PySem.Spec PyProof.Rows L2

theorem zip_lookup : ∀ {ps : List Str} {us : List Value} {x : Str}, us.length = ps.length → x ∈ ps → ∃ u, (ps.zip us).lookup x = some u
  | [], _, _, _, h => by cases h
  | p :: ps, [], _, h, _ => by cases h
  | p :: ps, u :: us, x, h, hx => by
    show ∃ v, (match x == p with | true => some u | false => (ps.zip us).lookup x) = some v
    cases e : x == p with
    | true => exact ⟨u, rfl⟩
    | false =>
      rcases List.mem_cons.mp hx with q | q
      · rw [q] at e; simp at e
      · exact zip_lookup (by simpa using h) q
theorem zip_again : ∀ {ps : List Str} {us : List Value}, ps.Nodup → us.length = ps.length → (ps.filterMap fun n => ((ps.zip us).lookup n).map fun v => (n, v)) = ps.zip us
  | [], us, _, h => by cases us; rfl; cases h
  | p :: ps, [], _, h => by cases h
  | p :: ps, u :: us, nd, h => by
    have hn := List.nodup_cons.mp nd
    have e : (p :: ps).zip (u :: us) = (p, u) :: ps.zip us := rfl
    rw [e, List.filterMap_cons]
    have e1 : (((p, u) :: ps.zip us).lookup p) = some u := by simp [List.lookup]
    rw [e1]
    show (p, u) :: _ = _
    congr 1
    have key : ∀ (l : List Str), (∀ n ∈ l, (n == p) = false) → (l.filterMap fun n => (((p, u) :: ps.zip us).lookup n).map fun v => (n, v)) = l.filterMap fun n => ((ps.zip us).lookup n).map fun v => (n, v) := by
      intro l hl
      induction l with
      | nil => rfl
      | cons n l ih =>
        rw [List.filterMap_cons, List.filterMap_cons, ih fun m hm => hl m (List.mem_cons_of_mem _ hm)]
        have ne := hl n (List.mem_cons_self ..)
        have e2 : ((p, u) :: ps.zip us).lookup n = (ps.zip us).lookup n := by
          show (match n == p with | true => some u | false => (ps.zip us).lookup n) = _
          rw [ne]
        rw [e2]
    rw [key ps fun n hm => by
      cases z : n == p with
      | false => rfl
      | true => rw [beq_iff_eq] at z; rw [z] at hm; exact absurd hm hn.1]
    exact zip_again hn.2 (by simpa using h)
def bindB (p : Arguments) (ps : List Str) : Bool := p.posonlyargs.isEmpty && decide (p.args.map (·.arg) = ps) && p.vararg.isNone && p.kwonlyargs.isEmpty && p.kwarg.isNone && decide ps.Nodup
theorem bind_gen {x q : Str} {params : Arguments} {body : List Stmt} {scope : Scope} {kV doc pm cdv ct : Value} {an : Option Addr} {ps : List Str} {us : List Value} (h : bindB params ps = true) (hl : us.length = ps.length) :
    bindArgs (PySem.W.fnOf x q params body scope .none kV doc pm an cdv ct) ⟨us, []⟩ = pure (ps.zip us) := by
  unfold bindB at h
  simp only [Bool.and_eq_true, decide_eq_true_eq] at h
  obtain ⟨⟨⟨⟨⟨h1, h2⟩, h3⟩, h4⟩, h5⟩, h6⟩ := h
  obtain ⟨po, ar, va, ko, kd, kw, df⟩ := params
  cases po with
  | cons _ _ => cases h1
  | nil =>
  cases va with
  | some _ => cases h3
  | none =>
  cases ko with
  | cons _ _ => cases h4
  | nil =>
  cases kw with
  | some _ => cases h5
  | none =>
  have h2 : ar.map (·.arg) = ps := h2
  subst h2
  have hm : ((ar.map (·.arg)).filter fun n => (((ar.map (·.arg)).zip us).lookup n).isNone) = [] := by
    rw [List.filter_eq_nil_iff]
    intro n hn
    obtain ⟨u, e⟩ := zip_lookup hl hn
    rw [e]; simp
  have hz := zip_again h6 hl
  have e0 : seqItems? Value.none = pure none := rfl
  unfold bindArgs PySem.W.fnOf
  simp only [e0, List.map_nil, List.nil_append, List.append_nil, pure_bind, Option.getD_none, Array.toList_empty, List.drop_nil, List.length_nil, Nat.sub_zero, hl, List.take_length, hm]
  simp only [List.forIn_nil, pure_bind, hm, List.isEmpty_nil, Nat.lt_irrefl, gt_iff_lt, decide_false, Bool.false_and, Bool.not_true, if_false, Bool.false_eq_true, List.drop_length, List.zip_nil_right, Option.isNone_none]
  exact congrArg pure hz

/-! ### a module -/
/-- a def of the text: its statement, parameters, slots, whether its display goes to the store -/
structure Df where
  st : Stmt
  ps : List Str
  N : List Str
  boxy : Bool := false
def Df.fd (d : Df) : Fd := { ps := d.ps, N := d.N, body := defBody d.st, sc := defScope d.st, boxy := d.boxy }
structure Md where
  defs : List (Str × Df)
  cons : List (Str × Int)
  excs : List Str
  bis : List Str
def Md.g (m : Md) : G := { con := fun x => (m.cons.lookup x).map D.int, fn := fun x => (m.defs.lookup x).map Df.fd, exc := fun x => m.excs.contains x, bi := fun x => m.bis.contains x }
def dD (d : Str × Df) : He.DefD := ⟨(d.1, none), d.1, d.1, defArgs d.2.st, defBody d.2.st, defScope d.2.st, [], []⟩
def Md.fn (m : Md) : List He.DefD := m.defs.map dD
def Md.fa (m : Md) : List He.Fa := m.defs.map (fun d => .glo d.1) ++ (m.cons.map (fun c => .int c.1 c.2) ++ (m.excs.map .glo ++ (m.excs.map .exc ++ m.bis.map .free)))
def Md.ok (m : Md) : Bool := m.defs.all fun d => scopeB d.2.fd && bindB (defArgs d.2.st) d.2.ps
/-- no list lies there -/
def noList (K : PySem.W.Frag) : Bool := K.all fun p => match p.2.cls with
  | .type c => !(decide (c = "list"))
  | _ => true
theorem noList_ok {K : PySem.W.Frag} (h : noList K = true) {a : Addr} {o : Obj} (e : K.lookup a = some o) : o.cls ≠ .type "list" := by
  intro z
  have q := List.all_eq_true.mp h (a, o) (He.lookup_mem e)
  dsimp only at q
  rw [z] at q
  simp at q
def evK (K : PySem.W.Frag) (x : Str) : Value := .ref (He.ga K x)
theorem lookup_memS {α : Type} {x : Str} {b : α} : ∀ {l : List (Str × α)}, l.lookup x = some b → (x, b) ∈ l
  | [], h => by cases h
  | (y, u) :: r, h => by
    have h2 : (match x == y with | true => some u | false => r.lookup x) = some b := h
    cases q : (x == y) with
    | true =>
      rw [q] at h2
      have e : u = b := Option.some.inj h2
      rw [beq_iff_eq.mp q, e]
      exact List.mem_cons_self
    | false =>
      rw [q] at h2
      exact List.mem_cons_of_mem _ (lookup_memS h2)
section
variable {m : Md} {K : PySem.W.Frag} {mg : Str → Option Value} {h : Heap}
theorem md_mok (hm : m.ok = true) (X : K.In h) (G : h.Ns mainGlobals mg) (c : He.SaysD m.fa m.fn K) : Mok K mg m.g (evK K) where
  con := fun x d e => by
    obtain ⟨i, h1, h2⟩ := Option.map_eq_some_iff.mp e
    subst h2
    have hf : He.Fa.int x i ∈ m.fa := List.mem_append_right _ (List.mem_append_left _ (List.mem_map.mpr ⟨(x, i), lookup_memS h1, rfl⟩))
    obtain ⟨t, q⟩ := He.int_ok X G (c.facts hf)
    exact ⟨_, .int i, q, ⟨t, rfl⟩, fun W H => .int i⟩
  bis := fun x e => He.free_ok X G (c.facts (List.mem_append_right _ (List.mem_append_right _ (List.mem_append_right _ (List.mem_append_right _ (List.mem_map.mpr ⟨x, List.contains_iff_mem.mp e, rfl⟩))))))
  exc := fun x e => by
    have e := List.contains_iff_mem.mp e
    have f1 : He.Fa.glo x ∈ m.fa := List.mem_append_right _ (List.mem_append_right _ (List.mem_append_left _ (List.mem_map.mpr ⟨x, e, rfl⟩)))
    have f2 : He.Fa.exc x ∈ m.fa := List.mem_append_right _ (List.mem_append_right _ (List.mem_append_right _ (List.mem_append_left _ (List.mem_map.mpr ⟨x, e, rfl⟩))))
    obtain ⟨h1, h2, h3, h4⟩ := He.exc_ok (c.facts f2)
    exact ⟨_, He.glo_ok X G (c.facts f1), rfl, h1, h2, h3, h4⟩
  fns := fun x fd e => by
    obtain ⟨d, h1, h2⟩ := Option.map_eq_some_iff.mp e
    subst h2
    have hmem := lookup_memS h1
    obtain ⟨k1, k2⟩ := Bool.and_eq_true_iff.mp (List.all_eq_true.mp hm _ hmem)
    have f1 : He.Fa.glo x ∈ m.fa := List.mem_append_left _ (List.mem_map.mpr ⟨(x, d), hmem, rfl⟩)
    obtain ⟨fdat, F⟩ := c.defs (d := dD (x, d)) (List.mem_map.mpr ⟨(x, d), hmem, rfl⟩)
    exact ⟨k1, _, fdat, x, x, defArgs d.st, He.glo_ok X G (c.facts f1), F, FunD.bindsN F fun kV doc pm an cdv ct us hl => bind_gen k2 hl, FunD.bindsA F fun kV doc pm an cdv ct us hl => bind_gen k2 hl⟩
end
/-- an exception somewhere behind a call -/
abbrev CXe : CXT := fun outer H s E u s' => ∃ P w, L2.CX P w outer H s E u s'
/-- what the law's def promises -/
def spLaw (K : PySem.W.Frag) (n : Nat) : Sp := fun vs H Q _ => ∃ (a : Addr) (ns : List Int), vs = [.ref a] ∧ ns.length ≤ n ∧ Only H ∧ SqL K H a (ns.map V.int) ∧ ∀ H', Q (.bl true) H'
theorem reps_ints {K : PySem.W.Frag} {W : Wd} {H : Hp} : ∀ ns : List Int, Reps K W H (ns.map D.int) (ns.map V.int)
  | [] => .nil
  | n :: ns => .cons (.int n) (reps_ints ns)
theorem law_fn {P : Program} {w : World} {K : PySem.W.Frag} {mg : Str → Option Value} {base : Heap} {ev : Str → Value} {n k : Nat} {f : Addr} {fd : FuncData} {x : Str} {C : Call} (hK : noList K = true)
    (hm : ∀ ns : List Int, ns.length ≤ n → ∃ S, C "law" [.lst (ns.map D.int)] [] = .ok (.bl true) S)
    (F : FnOk P w K mg base (L2.CX P w) k f fd [x] (spD K ev 1 (C "law"))) : FnOk P w K mg base CXe k f fd [x] (spLaw K n) := by
  refine ⟨fun vs H Q E ⟨a, ns, e, _⟩ => by rw [e]; rfl, fun A outer s H args us vs Q E hr e0 hb r ⟨a, ns, e, hl, hO, hS, hQ⟩ => codeAny_mono (F.run A outer s H args us vs Q E hr e0 hb r ?_) fun r s' q => ?_⟩
  rotate_left
  · cases r with
    | error e => exact ⟨P, w, q⟩
    | ok fl => cases fl <;> exact q
  subst e
  obtain ⟨S, hS2⟩ := hm ns hl
  have hR : Rd H a (.lst (ns.map V.int)) := by
    rcases hS with q | ⟨o, its, n, q1, q2, _⟩
    · exact q
    · exact absurd q2 (noList_ok hK q1)
  refine ⟨rfl, ⟨fun b => b = a, 0, fun _ => 0⟩, [], [.lst (ns.map D.int)], ⟨rfl, fun i o e => by simp at e, fun i j h => absurd h (Nat.not_lt_zero _), fun i h => absurd h (Nat.not_lt_zero _), fun b hb z => ?_, fun b xs q => (q.ok e0.hok).1, fun b xs q => ?_⟩, .cons (.lst rfl hR (reps_ints ns)) .nil, ?_⟩
  · have hb : b = a := hb
    subst hb
    rcases hR with q | ⟨o, q⟩
    · rw [z] at q; cases q
    · rw [z] at q; cases q
  · rcases q with q | ⟨o, its, n, _, _, _, h4, h5⟩
    · rcases q with q | ⟨o, q⟩
      · rcases hO b with z | ⟨_, _, z⟩
        · rw [z] at q; cases q
        · rw [z] at q; cases q
      · rcases hO b with z | ⟨_, _, z⟩
        · rw [z] at q; cases q
        · rw [z] at q; cases q
    · rw [h5.length]
      simpa using h4
  · rw [hS2]
    intro W' H' l w v rv
    cases rv
    exact hQ H'
theorem cx_end {P : Program} {w : World} {H : Hp} {s s' : Shared} {e : Value} (h : L2.CX P w [] H s (fun _ _ _ => False) e s') : False := by
  obtain ⟨_, _, _, _, _, _, _, _, _, _, _, _, z⟩ := h
  exact z
/-- the head's Hook -/
abbrev Md.hk (m : Md) : PySem.W.Hook := He.hookX 4 m.fa m.fn [] [] noList
def Md.ob (m : Md) (s : PySem.W.SharedT) : He.AlX := He.obsX 4 m.fa m.fn [] [] noList (HandSHeadRun.getT s)
theorem Md.ob_eq (m : Md) (s : PySem.W.SharedT) : m.ob s = m.hk.obs s.abs := He.obsX_eq (HandSHeadRun.getT_eq s)
/-- THE END of a law -/
theorem law_end {m : Md} {l : PySem.W.OpenLaw} {n k : Nat} {q : Program} {loose : List Str} {XP : (Str → Option Value) → Heap → Prop} {d : DefRec} {df : Df}
    (hn : l.most = some n) (hn2 : n ≤ sizeLine) (hdf : d.params.defaults = []) (hr : Room k callerA) (hok : m.ok = true) (hd : m.defs.lookup ("law" : Str) = some df) (hps : ∃ x, df.ps = [x]) (hnm : d.name = "law")
    (hm : ∀ ns : List Int, ns.length ≤ n → ∃ S, callN m.g k "law" [.lst (ns.map D.int)] [] = .ok (.bl true) S) :
    PySem.W.WalkO q loose XP m.hk.says l.row.toRowW d [] (fun f vs => PySem.call f vs) := by
  obtain ⟨x, hx⟩ := hps
  refine walk_ofE (n := n) (k := k) (x := x) (CX := CXe) hn hn2 hdf hr ?_ fun H s e s' ⟨P, w, z⟩ => cx_end z
  intro w mg fa h Y G hmg
  obtain ⟨K, KX, c⟩ := Y
  have M := md_mok (m := m) hok KX G c.t.d
  have hg : m.g.fn "law" = some df.fd := by show (m.defs.lookup ("law" : Str)).map Df.fd = _; rw [hd]; rfl
  obtain ⟨hsB, f, fdat, nm, qn, params, hmf, F, hb⟩ := M.fns "law" df.fd hg
  rw [hnm] at hmg
  rw [hmg] at hmf
  cases hmf
  have hps2 : df.fd.ps = [x] := hx
  refine ⟨K, fdat, spLaw K n, KX, ?_, fun H a ns h1 h2 h3 => ⟨a, ns, rfl, h1, h2, h3, fun _ => rfl⟩, ?_⟩
  · intro s u
    have b2 := hb.2 s [u] (by rw [hps2]; rfl)
    rw [hps2] at b2
    exact b2
  · intro base hB hN
    have F2 := fn_all (P := l.prog) (w := w) (base := base) M k "law" df.fd _ fdat nm qn params hg F
    rw [hps2] at F2
    exact law_fn (C := callN m.g k) c.more hm F2
end Lw
set_option maxHeartbeats 2000000
/-! LwM: words for the texts that tools/shallow.py prints. -/
namespace Lw
open PySem

def rdE (s : Sl) (S : Sto) : R D := match s with
  | .val d => .ok d S
  | _ => .bad
def rdT (s : Sl) (S : Sto) : R D := match s with
  | .val d => .ok d S
  | .own ds => .ok (.lst ds) S
  | _ => .bad
inductive Tg where
  | nm (i : Nat) | tp (ts : List Tg)
mutual
def asgG : Nat → Tg → D → Ev → Option Ev
  | 0, _, _, _ => none
  | n + 1, e, d, ρ => match e with
    | .nm i => if decide (i < ρ.length) then some (ρ.set i (.val d)) else none
    | .tp es => (match d with
      | .tup ds => asgGs n es ds ρ
      | _ => none)
def asgGs : Nat → List Tg → List D → Ev → Option Ev
  | 0, _, _, _ => none
  | n + 1, es, ds, ρ => match es, ds with
    | [], [] => some ρ
    | e :: es, d :: ds => (asgG n e d ρ).bind fun ρ1 => asgGs n es ds ρ1
    | _, _ => none
end
def tstD (d : D) (S : Sto) : R Bool := R.opt (truD (view S d)) S
def blD (d : D) (S : Sto) : R Bool := match d with
  | .bl b => .ok b S
  | _ => .bad
def negD (d : D) (S : Sto) : R D := match d with
  | .int i => .ok (.int (-i)) S
  | _ => .bad
def ixD (d : D) (S : Sto) : R (Option Int) := match d with
  | .int i => .ok (some i) S
  | _ => .bad
/-- and, or of values: the first is a bool -/
def andD (d : D) (S : Sto) (f : Sto → R D) : R D := match d with
  | .bl b => if b then f S else .ok (.bl false) S
  | _ => .bad
def orD (d : D) (S : Sto) (f : Sto → R D) : R D := match d with
  | .bl b => if b then .ok (.bl true) S else f S
  | _ => .bad
def asg1 (o : Option Ev) (S : Sto) (f : Ev → Sto → O) : O := match o with
  | some ρ => f ρ S
  | none => .bad
def subD (x j v : D) (ρ : Ev) (S : Sto) : O := match x, j with
  | .ref a, .int j => (match storeD a j v S with
    | some S4 => .nx ρ S4
    | none => .bad)
  | _, _ => .bad
def appS (s : Sl) (f : List D → O) : O := match s with
  | .own ds => f ds
  | _ => .bad
def augS (s : Sl) (f : D → O) : O := match s with
  | .val d => f d
  | _ => .bad
def optS (o : Option D) (f : D → O) : O := match o with
  | some d => f d
  | none => .bad
def twoD (ds : List D) (f : D → D → O) : O := match ds with
  | [a, b] => f a b
  | _ => .bad
end Lw
set_option maxHeartbeats 2000000
/-! LwN: plain Lean about the words of LwM. -/
namespace Lw
open PySem
section
variable {α β : Type} {S S' : Sto} {ρ : Ev} {s : Sl}
@[simp] theorem rb_ok (a : α) (S : Sto) (f : α → Sto → R β) : R.bind (.ok a S) f = f a S := id rfl
@[simp] theorem rb_err (c : Str) (S : Sto) (f : α → Sto → R β) : R.bind (.err c S) f = .err c S := id rfl
@[simp] theorem rr_ok (a : α) (S : Sto) (f : α → Sto → O) : R.run (.ok a S) ρ f = f a S := id rfl
@[simp] theorem rr_err (c : Str) (S : Sto) (f : α → Sto → O) : R.run (.err c S) ρ f = .err c ρ S := id rfl
@[simp] theorem sq_nx (f : Ev → Sto → O) : O.seq (.nx ρ S) f = f ρ S := id rfl
@[simp] theorem sq_ret (d : D) (f : Ev → Sto → O) : O.seq (.ret d S) f = .ret d S := id rfl
@[simp] theorem sq_brk (f : Ev → Sto → O) : O.seq (.brk ρ S) f = .brk ρ S := id rfl
@[simp] theorem sq_cnt (f : Ev → Sto → O) : O.seq (.cnt ρ S) f = .cnt ρ S := id rfl
@[simp] theorem sq_err (c : Str) (f : Ev → Sto → O) : O.seq (.err c ρ S) f = .err c ρ S := id rfl
@[simp] theorem fin_nx : O.fin (.nx ρ S) = .ok .non S := id rfl
@[simp] theorem fin_ret (d : D) : O.fin (.ret d S) = .ok d S := id rfl
@[simp] theorem fin_err (c : Str) : O.fin (.err c ρ S) = .err c S := id rfl
@[simp] theorem gs_z : getSl (s :: ρ) 0 = s := id rfl
@[simp] theorem gs_s (n : Nat) : getSl (s :: ρ) (n + 1) = getSl ρ n := id rfl
@[simp] theorem rdE_val (d : D) : rdE (.val d) S = .ok d S := id rfl
@[simp] theorem rdT_val (d : D) : rdT (.val d) S = .ok d S := id rfl
@[simp] theorem rdT_own (ds : List D) : rdT (.own ds) S = .ok (.lst ds) S := id rfl
@[simp] theorem fz_z : fz (s :: ρ) 0 = freezeSl s :: ρ := id rfl
@[simp] theorem fz_s (n : Nat) : fz (s :: ρ) (n + 1) = s :: fz ρ n := id rfl
@[simp] theorem frs_v (d : D) : freezeSl (.val d) = .val d := id rfl
@[simp] theorem frs_u : freezeSl .un = .un := id rfl
@[simp] theorem frs_o (ds : List D) : freezeSl (.own ds) = .val (.lst ds) := id rfl
@[simp] theorem opt_s (a : α) : R.opt (some a) S = .ok a S := id rfl
@[simp] theorem vw_int (i : Int) : view S (.int i) = .int i := id rfl
@[simp] theorem vw_bl (i : Bool) : view S (.bl i) = .bl i := id rfl
@[simp] theorem vw_str (i : Str) : view S (.str i) = .str i := id rfl
@[simp] theorem vw_non : view S .non = .non := id rfl
@[simp] theorem vw_tup (ds : List D) : view S (.tup ds) = .tup ds := id rfl
@[simp] theorem vw_lst (ds : List D) : view S (.lst ds) = .lst ds := id rfl
@[simp] theorem vw_ref0 (ds : List D) : view (.lst ds :: S) (.ref 0) = .lst ds := id rfl
@[simp] theorem tst_bl (b : Bool) : tstD (.bl b) S = .ok b S := id rfl
@[simp] theorem tst_tup (ds : List D) : tstD (.tup ds) S = .ok (!ds.isEmpty) S := id rfl
@[simp] theorem tst_lst (ds : List D) : tstD (.lst ds) S = .ok (!ds.isEmpty) S := id rfl
@[simp] theorem tst_int (i : Int) : tstD (.int i) S = .ok (i != 0) S := id rfl
@[simp] theorem blD_bl (b : Bool) : blD (.bl b) S = .ok b S := id rfl
@[simp] theorem neg_int (i : Int) : negD (.int i) S = .ok (.int (-i)) S := id rfl
@[simp] theorem ixD_int (i : Int) : ixD (.int i) S = .ok (some i) S := id rfl
@[simp] theorem and_t (f : Sto → R D) : andD (.bl true) S f = f S := id rfl
@[simp] theorem and_f (f : Sto → R D) : andD (.bl false) S f = .ok (.bl false) S := id rfl
@[simp] theorem or_t (f : Sto → R D) : orD (.bl true) S f = .ok (.bl true) S := id rfl
@[simp] theorem or_f (f : Sto → R D) : orD (.bl false) S f = f S := id rfl
@[simp] theorem asg1_s (f : Ev → Sto → O) : asg1 (some ρ) S f = f ρ S := id rfl
@[simp] theorem optS_s (d : D) (f : D → O) : optS (some d) f = f d := id rfl
@[simp] theorem augS_v (d : D) (f : D → O) : augS (.val d) f = f d := id rfl
@[simp] theorem appS_o (ds : List D) (f : List D → O) : appS (.own ds) f = f ds := id rfl
@[simp] theorem twoD_s (a b : D) (f : D → D → O) : twoD [a, b] f = f a b := id rfl
@[simp] theorem asgG_nm (n i : Nat) (d : D) (h : i < ρ.length) : asgG (n + 1) (.nm i) d ρ = some (ρ.set i (.val d)) := by simp [asgG, h]
@[simp] theorem asgG_tp (n : Nat) (ts : List Tg) (ds : List D) : asgG (n + 1) (.tp ts) (.tup ds) ρ = asgGs n ts ds ρ := by simp [asgG]
@[simp] theorem asgGs_nil (n : Nat) : asgGs (n + 1) [] [] ρ = some ρ := by simp [asgGs]
@[simp] theorem asgGs_cons (n : Nat) (t : Tg) (ts : List Tg) (d : D) (ds : List D) : asgGs (n + 1) (t :: ts) (d :: ds) ρ = (asgG n t d ρ).bind fun ρ1 => asgGs n ts ds ρ1 := by simp [asgGs]
/-! numbers -/
@[simp] theorem cp_eqi (i j : Int) : cmpD .Eq (.int i) (.int j) = some (i == j) := by simp [cmpD, D.eqv, D.plain, D.py, SeqAt.shaped, PyData.canLay0, PyData.depth, PyData.eqv]
@[simp] theorem cp_nei (i j : Int) : cmpD .NotEq (.int i) (.int j) = some (!(i == j)) := by simp [cmpD, D.eqv, D.plain, D.py, SeqAt.shaped, PyData.canLay0, PyData.depth, PyData.eqv]
@[simp] theorem cp_eqb (i j : Bool) : cmpD .Eq (.bl i) (.bl j) = some (i == j) := by simp [cmpD, D.eqv, D.plain, D.py, SeqAt.shaped, PyData.canLay0, PyData.depth, PyData.eqv]
@[simp] theorem cp_neb (i j : Bool) : cmpD .NotEq (.bl i) (.bl j) = some (!(i == j)) := by simp [cmpD, D.eqv, D.plain, D.py, SeqAt.shaped, PyData.canLay0, PyData.depth, PyData.eqv]
@[simp] theorem cp_lti (i j : Int) : cmpD .Lt (.int i) (.int j) = some (decide (i < j)) := id rfl
@[simp] theorem cp_lei (i j : Int) : cmpD .LtE (.int i) (.int j) = some (decide (i ≤ j)) := id rfl
@[simp] theorem cp_gti (i j : Int) : cmpD .Gt (.int i) (.int j) = some (decide (j < i)) := id rfl
@[simp] theorem cp_gei (i j : Int) : cmpD .GtE (.int i) (.int j) = some (decide (j ≤ i)) := id rfl
@[simp] theorem cp_isn : cmpD .Is .non .non = some true := id rfl
@[simp] theorem cp_ist (ds : List D) : cmpD .Is (.tup ds) .non = some false := id rfl
@[simp] theorem cp_isl (ds : List D) : cmpD .Is (.lst ds) .non = some false := id rfl
@[simp] theorem cp_isi (i : Int) : cmpD .Is (.int i) .non = some false := id rfl
@[simp] theorem bn_add (i j : Int) : binD .Add (.int i) (.int j) = some (.int (i + j)) := id rfl
@[simp] theorem bn_sub (i j : Int) : binD .Sub (.int i) (.int j) = some (.int (i - j)) := id rfl
theorem bn_mulL (i j : Int) (h : inR64 i = true) : binD .Mult (.int i) (.int j) = some (.int (i * j)) := by simp [binD, h]
theorem bn_mulR (i j : Int) (h : inR64 j = true) : binD .Mult (.int i) (.int j) = some (.int (i * j)) := by simp [binD, h]
theorem bn_fdiv (i j : Int) (h : 0 < j) (h2 : j < 1073741824) : binD .FloorDiv (.int i) (.int j) = some (.int (i / j)) := by simp [binD, h, h2]
theorem bn_mod (i j : Int) (h : 0 < j) : binD .Mod (.int i) (.int j) = some (.int (i % j)) := by simp [binD, h]
@[simp] theorem ca_len_t (ds : List D) : callD "len" [.tup ds] = some (.int ds.length) := id rfl
@[simp] theorem ca_len_l (ds : List D) : callD "len" [.lst ds] = some (.int ds.length) := id rfl
@[simp] theorem ca_int (i : Int) : callD "int" [.int i] = some (.int i) := id rfl
@[simp] theorem ca_abs (i : Int) : callD "abs" [.int i] = some (.int (if i < 0 then -i else i)) := id rfl
@[simp] theorem ca_sum (ds : List D) : callD "sum" [.lst ds] = (intsOf ds).map fun is => .int is.sum := id rfl
@[simp] theorem ca_tup_l (ds : List D) : callD "tuple" [.lst ds] = some (.tup ds) := id rfl
@[simp] theorem ca_tup_t (ds : List D) : callD "tuple" [.tup ds] = some (.tup ds) := id rfl
@[simp] theorem ca_max (i j : Int) : callD "max" [.int i, .int j] = some (.int (if j > i then j else i)) := id rfl
@[simp] theorem ca_min (i j : Int) : callD "min" [.int i, .int j] = some (.int (if j < i then j else i)) := id rfl
theorem ca_min_nat (i j : Nat) : callD "min" [.int (i : Int), .int (j : Int)] = some (.int ((min i j : Nat) : Int)) := by
  rw [ca_min]
  congr 2
  split <;> omega
@[simp] theorem ai_add (i j : Int) : augD .Add (.int i) (.int j) = some (.int (i + j)) := id rfl
@[simp] theorem ai_sub (i j : Int) : augD .Sub (.int i) (.int j) = some (.int (i - j)) := id rfl
theorem atI_nat {ds : List D} {i : Nat} {d : D} (h : ds[i]? = some d) : L2.atI ds (i : Int) = some d := by
  have hi := (List.getElem?_eq_some_iff.mp h).1
  simp [L2.atI, L2.ixN, hi]
  exact (List.getElem?_eq_some_iff.mp h).2
theorem it_nat {ds : List D} {i : Nat} {d : D} (h : ds[i]? = some d) : itemD (.tup ds) (.int (i : Int)) = some d := atI_nat h
theorem itl_nat {ds : List D} {i : Nat} {d : D} (h : ds[i]? = some d) : itemD (.lst ds) (.int (i : Int)) = some d := atI_nat h
@[simp] theorem it0 (d : D) (ds : List D) : itemD (.tup (d :: ds)) (.int 0) = some d := it_nat (i := 0) rfl
@[simp] theorem it1 (d e : D) (ds : List D) : itemD (.tup (d :: e :: ds)) (.int 1) = some e := it_nat (i := 1) rfl
@[simp] theorem it2 (d e f : D) (ds : List D) : itemD (.tup (d :: e :: f :: ds)) (.int 2) = some f := it_nat (i := 2) rfl
@[simp] theorem il0 (d : D) (ds : List D) : itemD (.lst (d :: ds)) (.int 0) = some d := itl_nat (i := 0) rfl
@[simp] theorem il1 (d e : D) (ds : List D) : itemD (.lst (d :: e :: ds)) (.int 1) = some e := itl_nat (i := 1) rfl
@[simp] theorem il2 (d e f : D) (ds : List D) : itemD (.lst (d :: e :: f :: ds)) (.int 2) = some f := itl_nat (i := 2) rfl
@[simp] theorem il3 (d e f g : D) (ds : List D) : itemD (.lst (d :: e :: f :: g :: ds)) (.int 3) = some g := itl_nat (i := 3) rfl
@[simp] theorem isi_int_i (i : Int) : isiD "int" (.int i) = some true := id rfl
@[simp] theorem isi_bool_i (i : Int) : isiD "bool" (.int i) = some false := id rfl
@[simp] theorem isi_tup_t (ds : List D) : isiD "tuple" (.tup ds) = some true := id rfl
@[simp] theorem tru_bl (b : Bool) : truD (.bl b) = some b := id rfl
@[simp] theorem tru_tup (ds : List D) : truD (.tup ds) = some (!ds.isEmpty) := id rfl
@[simp] theorem its_t (ds : List D) : itemsD (.tup ds) = some ds := id rfl
@[simp] theorem its_l (ds : List D) : itemsD (.lst ds) = some ds := id rfl
theorem cp_neD (a b : D) : cmpD .NotEq a b = (D.eqv a b).map (!·) := rfl
theorem cp_eqD (a b : D) : cmpD .Eq a b = D.eqv a b := rfl
@[simp] theorem line1 : (1 ≤ LINE) = True := by decide
@[simp] theorem line2 : (2 ≤ LINE) = True := by decide
@[simp] theorem line3 : (3 ≤ LINE) = True := by decide
/-! the box -/
@[simp] theorem sub0 (a b c d v : D) (ρ : Ev) (S : Sto) : subD (.ref 0) (.int 0) v ρ (.lst [a, b, c, d] :: S) = .nx ρ (.lst [v, b, c, d] :: S) := id rfl
@[simp] theorem sub1 (a b c d v : D) (ρ : Ev) (S : Sto) : subD (.ref 0) (.int 1) v ρ (.lst [a, b, c, d] :: S) = .nx ρ (.lst [a, v, c, d] :: S) := id rfl
@[simp] theorem sub2 (a b c d v : D) (ρ : Ev) (S : Sto) : subD (.ref 0) (.int 2) v ρ (.lst [a, b, c, d] :: S) = .nx ρ (.lst [a, b, v, d] :: S) := id rfl
end
end Lw
set_option maxHeartbeats 2000000
/-! LwT: labelled ordered trees as data; size, depth, order. -/
namespace Lw
open PySem
inductive Tr where
  | nd (a : Int) (ks : List Tr)
mutual
def enc : Tr → D
  | .nd a ks => .tup [.int a, .tup (encs ks)]
def encs : List Tr → List D
  | [] => []
  | t :: ts => enc t :: encs ts
end
mutual
def sz : Tr → Nat
  | .nd _ ks => 1 + szs ks
def szs : List Tr → Nat
  | [] => 0
  | t :: ts => sz t + szs ts
end
mutual
def dp : Tr → Nat
  | .nd _ ks => 1 + dps ks
def dps : List Tr → Nat
  | [] => 0
  | t :: ts => max (dp t) (dps ts)
end
mutual
def lab : Tr → Prop
  | .nd a ks => (0 ≤ a ∧ a ≤ 4) ∧ labs ks
def labs : List Tr → Prop
  | [] => True
  | t :: ts => lab t ∧ labs ts
end
def sgn (x y : Int) : Int := if x < y then -1 else 1
mutual
def cmpT : Tr → Tr → Int
  | .nd a ks, .nd b ls => if a = b then (if (szs ks : Int) = szs ls then cmpz ks ls else sgn (szs ks) (szs ls)) else sgn a b
def cmpz : List Tr → List Tr → Int
  | t :: ts, u :: us => if cmpT t u = 0 then cmpz ts us else cmpT t u
  | _, _ => 0
end
def cmps (d e : List Tr) : Int := if (szs d : Int) = szs e then cmpz d e else sgn (szs d) (szs e)
abbrev doc (ts : List Tr) : D := .tup (encs ts)
theorem encs_len : ∀ ts : List Tr, (encs ts).length = ts.length
  | [] => rfl
  | t :: ts => by simp [encs, encs_len ts]
theorem encs_get : ∀ (ts : List Tr) (i : Nat), (encs ts)[i]? = (ts[i]?).map enc
  | [], i => by simp [encs]
  | t :: ts, 0 => by simp [encs]
  | t :: ts, i + 1 => by simp [encs, encs_get ts i]
theorem encs_app : ∀ (ts us : List Tr), encs (ts ++ us) = encs ts ++ encs us
  | [], us => rfl
  | t :: ts, us => by simp [encs, encs_app ts us]
theorem szs_app : ∀ (ts us : List Tr), szs (ts ++ us) = szs ts + szs us
  | [], us => by simp [szs]
  | t :: ts, us => by simp [szs, szs_app ts us]; omega
theorem dps_app : ∀ (ts us : List Tr), dps (ts ++ us) = max (dps ts) (dps us)
  | [], us => by simp [dps]
  | t :: ts, us => by simp [dps, dps_app ts us]
theorem labs_app : ∀ (ts us : List Tr), labs (ts ++ us) ↔ labs ts ∧ labs us
  | [], us => by simp [labs]
  | t :: ts, us => by simp [labs, labs_app ts us, and_assoc]
theorem encs_take : ∀ (ts : List Tr) (i : Nat), encs (ts.take i) = (encs ts).take i
  | [], i => by simp [encs]
  | t :: ts, 0 => by simp [encs]
  | t :: ts, i + 1 => by simp [encs, encs_take ts i]
theorem encs_drop : ∀ (ts : List Tr) (i : Nat), encs (ts.drop i) = (encs ts).drop i
  | [], i => by simp [encs]
  | t :: ts, 0 => by simp [encs]
  | t :: ts, i + 1 => by simp [encs, encs_drop ts i]
theorem sz_pos : ∀ t : Tr, 0 < sz t
  | .nd a ks => by simp [sz]; omega
theorem szs_len : ∀ ts : List Tr, ts.length ≤ szs ts
  | [] => by simp
  | t :: ts => by
    have := sz_pos t
    have := szs_len ts
    simp [szs]; omega
mutual
theorem dp_sz : ∀ t : Tr, dp t ≤ sz t
  | .nd a ks => by
    have := dps_szs ks
    simp [dp, sz]; omega
theorem dps_szs : ∀ ts : List Tr, dps ts ≤ szs ts
  | [] => by simp [dps]
  | t :: ts => by
    have := dp_sz t
    have := dps_szs ts
    simp [dps, szs]; omega
end
theorem szs_zero : ∀ ts : List Tr, szs ts = 0 → ts = []
  | [], _ => rfl
  | t :: ts, h => by
    have := sz_pos t
    simp [szs] at h; omega
/-! the order -/
theorem sgn_ne (x y : Int) : sgn x y ≠ 0 := by unfold sgn; split <;> omega
theorem sgn_neg {x y : Int} (h : x ≠ y) : sgn y x = - sgn x y := by unfold sgn; split <;> split <;> omega
mutual
theorem cmpT_self : ∀ t : Tr, cmpT t t = 0
  | .nd a ks => by simp [cmpT, cmpz_self ks]
theorem cmpz_self : ∀ ts : List Tr, cmpz ts ts = 0
  | [] => by simp [cmpz]
  | t :: ts => by simp [cmpz, cmpT_self t, cmpz_self ts]
end
theorem cmps_self (d : List Tr) : cmps d d = 0 := by simp [cmps, cmpz_self]
mutual
theorem cmpT_neg : ∀ t u : Tr, cmpT u t = - cmpT t u
  | .nd a ks, .nd b ls => by
    simp only [cmpT]
    by_cases h : a = b
    · rw [if_pos h, if_pos h.symm]
      by_cases h2 : (szs ks : Int) = szs ls
      · rw [if_pos h2, if_pos h2.symm]; exact cmpz_neg ks ls
      · rw [if_neg h2, if_neg (fun z => h2 z.symm)]; exact sgn_neg h2
    · rw [if_neg h, if_neg (fun z => h z.symm)]; exact sgn_neg h
theorem cmpz_neg : ∀ ts us : List Tr, cmpz us ts = - cmpz ts us
  | [], [] => by simp [cmpz]
  | [], _ :: _ => by simp [cmpz]
  | _ :: _, [] => by simp [cmpz]
  | t :: ts, u :: us => by
    simp only [cmpz]
    have h1 := cmpT_neg t u
    have h2 := cmpz_neg ts us
    by_cases h : cmpT t u = 0
    · rw [if_pos h, if_pos (by omega), h2]
    · rw [if_neg h, if_neg (by omega), h1]
end
theorem cmps_neg (d e : List Tr) : cmps e d = - cmps d e := by
  unfold cmps
  by_cases h2 : (szs d : Int) = szs e
  · rw [if_pos h2, if_pos h2.symm]; exact cmpz_neg d e
  · rw [if_neg h2, if_neg (fun z => h2 z.symm)]; exact sgn_neg h2
mutual
theorem cmpT_eq : ∀ t u : Tr, cmpT t u = 0 → t = u
  | .nd a ks, .nd b ls => fun q => by
    simp only [cmpT] at q
    by_cases h : a = b
    · rw [if_pos h] at q
      by_cases h2 : (szs ks : Int) = szs ls
      · rw [if_pos h2] at q; rw [h, cmpz_eq ks ls q (by omega)]
      · rw [if_neg h2] at q; exact absurd q (sgn_ne _ _)
    · rw [if_neg h] at q; exact absurd q (sgn_ne _ _)
theorem cmpz_eq : ∀ ts us : List Tr, cmpz ts us = 0 → szs ts = szs us → ts = us
  | [], us => fun _ h => (szs_zero us (by simpa [szs] using h.symm)).symm
  | t :: ts, [] => fun _ h => by
    have := sz_pos t
    simp [szs] at h; omega
  | t :: ts, u :: us => fun q h => by
    simp only [cmpz] at q
    by_cases z : cmpT t u = 0
    · rw [if_pos z] at q
      have e := cmpT_eq t u z
      subst e
      rw [cmpz_eq ts us q (by simp [szs] at h; omega)]
    · rw [if_neg z] at q; exact absurd q z
end
theorem cmps_eq (d e : List Tr) : cmps d e = 0 ↔ d = e := by
  constructor
  · intro h
    unfold cmps at h
    by_cases h2 : (szs d : Int) = szs e
    · rw [if_pos h2] at h; exact cmpz_eq d e h (by omega)
    · rw [if_neg h2] at h; exact absurd h (sgn_ne _ _)
  · intro h; subst h; exact cmps_self d
/-! the same data -/
mutual
theorem eqv_enc : ∀ t u : Tr, PyData.eqv (enc t).py (enc u).py = true ↔ t = u
  | .nd a ks, .nd b ls => by
    simp [enc, D.py, D.pys, PyData.eqv, PyData.eqvAll, eqv_encs ks ls]
theorem eqv_encs : ∀ ts us : List Tr, PyData.eqvAll (D.pys (encs ts)) (D.pys (encs us)) = true ↔ ts = us
  | [], [] => by simp [encs, D.pys, PyData.eqvAll]
  | [], _ :: _ => by simp [encs, D.pys, PyData.eqvAll]
  | _ :: _, [] => by simp [encs, D.pys, PyData.eqvAll]
  | t :: ts, u :: us => by simp [encs, D.pys, PyData.eqvAll, eqv_enc t u, eqv_encs ts us]
end
mutual
theorem plain_enc : ∀ t : Tr, (enc t).plain = true ∧ (enc t).py.canLay0 = true ∧ (enc t).py.depth = 2 * dp t
  | .nd a ks => by
    obtain ⟨h1, h2, h3⟩ := plain_encs ks
    refine ⟨by simp [enc, D.plain, D.plains, h1], by simp [enc, D.py, D.pys, PyData.canLay0, PyData.canLayAll0, h2], ?_⟩
    simp [enc, D.py, D.pys, PyData.depth, PyData.depthAll, dp, h3]; omega
theorem plain_encs : ∀ ts : List Tr, D.plains (encs ts) = true ∧ PyData.canLayAll0 (D.pys (encs ts)) = true ∧ PyData.depthAll (D.pys (encs ts)) = 2 * dps ts
  | [] => by simp [encs, D.plains, D.pys, PyData.canLayAll0, PyData.depthAll, dps]
  | t :: ts => by
    obtain ⟨h1, h2, h3⟩ := plain_enc t
    obtain ⟨g1, g2, g3⟩ := plain_encs ts
    refine ⟨by simp [encs, D.plains, h1, g1], by simp [encs, D.pys, PyData.canLayAll0, h2, g2], ?_⟩
    simp [encs, D.pys, PyData.depthAll, dps, h3, g3] <;> omega
end
theorem doc_eqv (d e : List Tr) (h1 : dps d ≤ 31) (h2 : dps e ≤ 31) [Decidable (d = e)] : D.eqv (doc d) (doc e) = some (decide (d = e)) := by
  obtain ⟨a1, a2, a3⟩ := plain_encs d
  obtain ⟨b1, b2, b3⟩ := plain_encs e
  have s1 : SeqAt.shaped (doc d).py = true := by simp [SeqAt.shaped, D.py, PyData.canLay0, PyData.depth, a2, a3]; omega
  have s2 : SeqAt.shaped (doc e).py = true := by simp [SeqAt.shaped, D.py, PyData.canLay0, PyData.depth, b2, b3]; omega
  unfold D.eqv
  rw [s1, s2]
  simp only [D.plain, a1, b1, Bool.and_self, if_true]
  congr 1
  have q := eqv_encs d e
  have e1 : PyData.eqv (doc d).py (doc e).py = PyData.eqvAll (D.pys (encs d)) (D.pys (encs e)) := by simp [D.py, PyData.eqv]
  rw [e1]
  by_cases z : d = e
  · rw [decide_eq_true z]; exact q.mpr z
  · rw [decide_eq_false z]
    cases w : PyData.eqvAll (D.pys (encs d)) (D.pys (encs e)) with
    | false => rfl
    | true => exact absurd (q.mp w) z
/-! loops -/
theorem compL_enc {step : D → Sto → R (Option D)} {S : Sto} {f : Tr → D} : ∀ (ts : List Tr) (acc : List D), (∀ t ∈ ts, step (enc t) S = .ok (some (f t)) S) → compL step (encs ts) acc S = .ok (acc ++ ts.map f) S
  | [], acc, _ => by simp [encs, compL]
  | t :: ts, acc, h => by
    have ih := compL_enc (f := f) ts (acc ++ [f t]) fun u hu => h u (List.mem_cons_of_mem _ hu)
    simp [encs, compL, h t (List.mem_cons_self ..), ih]
theorem ints_sum (f : Tr → Int) : ∀ ts : List Tr, intsOf (ts.map fun t => D.int (f t)) = some (ts.map f)
  | [] => rfl
  | t :: ts => by simp [intsOf, ints_sum f ts]
theorem szs_sum : ∀ ts : List Tr, (ts.map fun t => (sz t : Int)).sum = szs ts
  | [] => by simp [szs]
  | t :: ts => by simp [szs, szs_sum ts]
def kids : Tr → List Tr
  | .nd _ ks => ks
def labl : Tr → Int
  | .nd a _ => a
theorem dps_mem {t : Tr} : ∀ {ts : List Tr}, t ∈ ts → dp t ≤ dps ts
  | [], h => by cases h
  | u :: ts, h => by
    rcases List.mem_cons.mp h with h | h
    · subst h; simp only [dps]; omega
    · have := dps_mem h; simp only [dps]; omega
theorem szs_mem {t : Tr} : ∀ {ts : List Tr}, t ∈ ts → sz t ≤ szs ts
  | [], h => by cases h
  | u :: ts, h => by
    rcases List.mem_cons.mp h with h | h
    · subst h; simp only [szs]; omega
    · have := szs_mem h; simp only [szs]; omega
theorem labs_mem {t : Tr} : ∀ {ts : List Tr}, t ∈ ts → labs ts → lab t
  | [], h, _ => by cases h
  | u :: ts, h, q => by
    rcases List.mem_cons.mp h with h | h
    · subst h; exact q.1
    · exact labs_mem h q.2
@[simp] theorem lc_some (fc : Ev → Sto → R Bool) (fe : Ev → Sto → R D) (S : Sto) (ρ : Ev) : lcStep fc fe S (some ρ) = (fc ρ S).noe.bind fun t S3 => if t then (fe ρ S3).noe.bind fun y S4 => .ok (some y) S4 else .ok none S3 := id rfl
@[simp] theorem noe_ok {α : Type} (a : α) (S : Sto) : R.noe (.ok a S) = .ok a S := id rfl
@[simp] theorem wipe_nil (ρ : Ev) : wipeE ρ [] = ρ := id rfl
@[simp] theorem wipe_cons (ρ : Ev) (v : Nat) (vs : List Nat) : wipeE ρ (v :: vs) = (wipeE ρ vs).set v .un := id rfl
/-! slices, ranges -/
theorem cut_to {α : Type} (xs ys : List α) : cutD (xs ++ ys) none (some (xs.length : Int)) = xs := by
  unfold cutD
  rw [HT.sIx_none, HT.sIx_nat]
  simp
theorem cut_from {α : Type} (xs ys : List α) : cutD (xs ++ ys) (some (xs.length : Int)) none = ys := by
  unfold cutD
  rw [HT.sIx_none, HT.sIx_nat]
  simp
theorem sl_to (l : List Tr) (t : Tr) (r : List Tr) : sliceD (doc (l ++ t :: r)) none (some (l.length : Int)) = some (doc l) := by
  have e : encs (l ++ t :: r) = encs l ++ encs (t :: r) := encs_app _ _
  simp only [sliceD]
  rw [e, ← encs_len l, cut_to]
theorem sl_from (l : List Tr) (t : Tr) (r : List Tr) : sliceD (doc (l ++ t :: r)) (some ((l.length : Int) + 1)) none = some (doc r) := by
  have e : encs (l ++ t :: r) = encs (l ++ [t]) ++ encs r := by rw [← encs_app]; simp
  have e2 : (l.length : Int) + 1 = ((encs (l ++ [t])).length : Int) := by rw [encs_len]; simp
  simp only [sliceD]
  rw [e, e2, cut_from]
theorem it_mid (l : List Tr) (t : Tr) (r : List Tr) : itemD (doc (l ++ t :: r)) (.int (l.length : Int)) = some (enc t) := it_nat (by rw [encs_get]; simp)
theorem bn_addT (a b : List D) (h : a.length + b.length ≤ LINE) : binD .Add (.tup a) (.tup b) = some (.tup (a ++ b)) := by simp [binD, h]
theorem bn_addL (a b : List D) (h : a.length + b.length ≤ LINE) : binD .Add (.lst a) (.lst b) = some (.lst (a ++ b)) := by simp [binD, h]
def rng (j m : Nat) : List D := (List.range' j m).map fun (k : Nat) => D.int (k : Int)
theorem rng_z (j : Nat) : rng j 0 = [] := rfl
theorem rng_s (j m : Nat) : rng j (m + 1) = .int (j : Int) :: rng (j + 1) m := by simp [rng, List.range'_succ]
theorem rangeA1_nat (n : Nat) (S : Sto) (h : n ≤ 16777216) : rangeA1 [.int (n : Int)] S = .ok (rng 0 n) S := by
  have e : rangeD 0 (n : Int) = some (rng 0 n) := by
    unfold rangeD
    rw [if_pos (by unfold LINE; omega)]
    congr 1
    simp [rng, List.range_eq_range']
  show R.opt (rangeD 0 (n : Int)) S = _
  rw [e]; rfl
theorem split_at : ∀ (ts : List Tr) (i : Nat), i < ts.length → ∃ l t r, ts = l ++ t :: r ∧ l.length = i
  | [], i, h => by simp at h
  | t :: ts, 0, h => ⟨[], t, ts, rfl, rfl⟩
  | t :: ts, i + 1, h => by
    obtain ⟨l, u, r, e, hl⟩ := split_at ts i (by simpa using h)
    exact ⟨t :: l, u, r, by rw [e]; rfl, by simp [hl]⟩
end Lw
set_option maxHeartbeats 0
namespace K01
open PySem PySem.Spec PyProof.Rows L2 Lw
def top (i : Nat) : Stmt := PySem.Challenge.pw_leafward_k01_sizes_and_order.main.body.getD i (.Pass ⟨0, 0, 0, 0⟩)
def d_is_whole : Df := { st := top 4, ps := ["x"], N := ["x"] }
def d_is_within : Df := { st := top 5, ps := ["x", "low", "high"], N := ["x", "low", "high"] }
def d_measure : Df := { st := top 10, ps := ["d", "levels"], N := ["d", "levels", "many", "deepest", "tree", "found"] }
def d_check_document : Df := { st := top 11, ps := ["d"], N := ["d"] }
def d_trees_in : Df := { st := top 12, ps := ["d"], N := ["d", "_", "kids"] }
def d_size : Df := { st := top 13, ps := ["d"], N := ["d"] }
def d_compared : Df := { st := top 14, ps := ["d", "e"], N := ["d", "e", "one", "other", "found", "a", "kids", "b", "others"] }
def d_before : Df := { st := top 15, ps := ["d", "e"], N := ["d", "e"] }
def d__law_box : Df := { st := top 17, ps := ["_law_script"], N := ["_law_script", "_law_x"], boxy := true }
def d__law_take : Df := { st := top 18, ps := ["_law_box_here", "_law_m"], N := ["_law_box_here", "_law_m", "_law_at", "_law_cell", "_law_told"] }
def d__law_pick : Df := { st := top 19, ps := ["_law_box_here", "_law_menu"], N := ["_law_box_here", "_law_menu"] }
def d__law_size : Df := { st := top 20, ps := ["_law_d"], N := ["_law_d", "_law_tree"] }
def d__law_document : Df := { st := top 21, ps := ["_law_box_here", "_law_labels", "_law_most", "_law_deep"], N := ["_law_box_here", "_law_labels", "_law_most", "_law_deep", "_law_trees", "_law_left", "_law_k", "_law_kids"] }
def d__law_order : Df := { st := top 22, ps := ["_law_d", "_law_e"], N := ["_law_d", "_law_e", "_law_k", "_law_one", "_law_two", "_law_found"] }
def d__law_all : Df := { st := top 23, ps := ["_law_labels", "_law_most"], N := ["_law_labels", "_law_most", "_law_table", "_law_many", "_law_out", "_law_found", "_law_label", "_law_inner", "_law_kids", "_law_rest"] }
def d__law_schema : Df := { st := top 24, ps := ["_law_box_here", "_law_labels", "_law_most", "_law_rules"], N := ["_law_box_here", "_law_labels", "_law_most", "_law_rules", "_law_many", "_law_states", "_law_q", "_law_found", "_law_k", "_law_rule"] }
def d__law_behind : Df := { st := top 25, ps := ["_law_s", "_law_label", "_law_kids", "_law_rest"], N := ["_law_s", "_law_label", "_law_kids", "_law_rest", "_law_out", "_law_q", "_law_a", "_law_x", "_law_y"] }
def d__law_empty : Df := { st := top 26, ps := ["_law_s"], N := ["_law_s", "_law_q"] }
def d__law_set : Df := { st := top 27, ps := ["_law_s", "_law_d"], N := ["_law_s", "_law_d", "_law_found", "_law_k", "_law_label", "_law_kids"] }
def d__law_near : Df := { st := top 28, ps := ["_law_box_here", "_law_d"], N := ["_law_box_here", "_law_d", "_law_k", "_law_sort"] }
def d__law_is_number : Df := { st := top 29, ps := ["_law_x"], N := ["_law_x"] }
def d_law : Df := { st := top 30, ps := ["_law_script"], N := ["_law_script", "_law_box_here", "_law_d", "_law_e", "_law_one", "_law_due", "_law_told", "_law_every", "_law_two"] }
def dfs0 : List (Str × Df) := [("is_whole", d_is_whole), ("is_within", d_is_within), ("measure", d_measure), ("check_document", d_check_document), ("trees_in", d_trees_in), ("size", d_size), ("compared", d_compared), ("before", d_before), ("_law_box", d__law_box), ("_law_take", d__law_take), ("_law_pick", d__law_pick), ("_law_size", d__law_size)]
def dfs1 : List (Str × Df) := [("_law_document", d__law_document), ("_law_order", d__law_order), ("_law_all", d__law_all), ("_law_schema", d__law_schema), ("_law_behind", d__law_behind), ("_law_empty", d__law_empty), ("_law_set", d__law_set), ("_law_near", d__law_near), ("_law_is_number", d__law_is_number), ("law", d_law)]
def md : Md where
  defs := dfs0 ++ dfs1
  cons := [("LABELS", 5), ("MOST_TREES", 300), ("DEEPEST", 30)]
  excs := ["LeafwardError", "BadDocument"]
  bis := ["abs", "bool", "int", "isinstance", "len", "max", "min", "range", "sorted", "sum", "tuple", "zip"]
def loose0 : List Str := ["is_whole", "is_within", "measure", "check_document", "trees_in", "size", "compared", "before", "_law_box", "_law_take", "_law_pick", "_law_size", "_law_document", "_law_order", "_law_all", "_law_schema", "_law_behind", "_law_empty", "_law_set", "_law_near", "_law_is_number", "LeafwardError", "BadDocument", "LABELS", "MOST_TREES", "DEEPEST"]
def loose : List Str := loose0
end K01
namespace K01
open PySem PySem.Spec PyProof.Rows L2 Lw
abbrev theRow : PySem.W.OpenRow := PySem.W.OpenLaw.row PySem.Challenge.rw_leafward_k01_sizes_and_order
theorem top_run (w : World) : HandSHeadRun.RunEq theRow (PySem.W.view theRow.prog [30]) md.hk md.ob 4000 loose w := by
  intro os
  kernel_rfl
end K01
open PySem PySem.W PySem.Calls PyProof.Rows PySem.Spec in
theorem K01.holds_of (k : Nat) (hr : L2.Room k callerA) (hm : ∀ ns : List Int, ns.length ≤ 63 → ∃ S, Lw.callN K01.md.g k "law" [.lst (ns.map Lw.D.int)] [] = .ok (.bl true) S) : PySem.Challenge.rw_leafward_k01_sizes_and_order.Holds := by
  w_on; o_law
  refine HandSHeadRun.head_any (r := OpenLaw.row PySem.Challenge.rw_leafward_k01_sizes_and_order) (q := view (OpenLaw.row PySem.Challenge.rw_leafward_k01_sizes_and_order).prog [30]) (H := K01.md.hk) (ob := K01.md.ob) (M := 4000) (loose := K01.loose) (d := HandSHeadRun.topDef (OpenLaw.row PySem.Challenge.rw_leafward_k01_sizes_and_order).prog 30) (kwd := [])
    K01.md.ob_eq (by kernel_rfl) (fun s => by kernel_rfl) K01.top_run (by kernel_rfl) (by kernel_rfl) (by kernel_rfl) (by rfl) (by first | assumption | decide +kernel) (by decide +kernel) ⟨rfl, rfl, rfl, rfl, rfl, by decide +kernel⟩ ?hw ?hc
  case hw => w_witness2
  case hc => exact Lw.law_end (l := PySem.Challenge.rw_leafward_k01_sizes_and_order) (n := 63) (df := K01.d_law) rfl (by decide) (by kernel_rfl) hr (by decide +kernel) (by kernel_rfl) ⟨"_law_script", rfl⟩ (by kernel_rfl) hm
set_option maxHeartbeats 0
namespace K01
open PySem PySem.Spec PyProof.Rows L2 Lw
def s_is_whole_b (C : Call) (ρ : Ev) (S : Sto) : O :=
(O.seq (R.run (R.bind (R.bind (rdT (getSl ρ 0) S) fun d2 S3 =>
 (R.opt ((isiD "int" (view S3 d2)).map D.bl) S3)) fun d4 S5 =>
 (andD d4 S5 fun S1 =>
 (R.bind (R.bind (rdT (getSl ρ 0) S1) fun d6 S7 =>
 (R.opt ((isiD "bool" (view S7 d6)).map D.bl) S7)) fun d8 S9 =>
 (R.opt ((truD (view S9 d8)).map fun b => D.bl (!b)) S9)))) ρ fun d10 S11 =>
 (.ret d10 S11)) fun ρ12 S13 =>
(.nx ρ12 S13))
def s_is_whole (C : Call) (a0 : D) (S : Sto) : R D := O.fin (s_is_whole_b C [.val a0] S)
def s_is_within_b (C : Call) (ρ : Ev) (S : Sto) : O :=
(O.seq (R.run (R.bind (R.bind (R.bind (rdE (getSl (fz ρ 0) 0) S) fun d2 S3 =>
 (.ok [d2] S3)) fun ds4 S5 =>
 (C "is_whole" ds4 S5)) fun d6 S7 =>
 (andD d6 S7 fun S1 =>
 (R.bind (rdT (getSl (fz ρ 0) 1) S1) fun d8 S9 =>
 (R.bind (rdT (getSl (fz ρ 0) 0) S9) fun d10 S11 =>
 (R.bind (R.opt (cmpD .LtE (view S11 d8) (view S11 d10)) S11) fun t12 S13 =>
 if t12 then (R.bind (rdT (getSl (fz ρ 0) 2) S13) fun d14 S15 =>
 (R.opt ((cmpD .LtE (view S15 d10) (view S15 d14)).map D.bl) S15)) else .ok (.bl false) S13))))) (fz ρ 0) fun d16 S17 =>
 (.ret d16 S17)) fun ρ18 S19 =>
(.nx ρ18 S19))
def s_is_within (C : Call) (a0 a1 a2 : D) (S : Sto) : R D := O.fin (s_is_within_b C [.val a0, .val a1, .val a2] S)
def s_measure_l1_b (C : Call) (ρ : Ev) (S : Sto) : O :=
 (O.seq (R.run (R.bind (R.bind (R.bind (R.bind (rdT (getSl ρ 4) S) fun d29 S30 =>
 (R.opt ((isiD "tuple" (view S30 d29)).map D.bl) S30)) fun d31 S32 =>
 (tstD d31 S32)) fun t33 S34 =>
 (.ok (!t33) S34)) fun t35 S36 =>
 (if t35 then .ok true S36 else (R.bind (R.bind (R.bind (R.bind (R.bind (rdT (getSl ρ 4) S36) fun d37 S38 =>
 (.ok [d37] S38)) fun ds39 S40 =>
 (R.opt (callD "len" (ds39.map (view S40))) S40)) fun d41 S42 =>
 (R.opt ((cmpD .NotEq (view S42 d41) (.int 2)).map D.bl) S42)) fun d43 S44 =>
 (blD d43 S44)) fun t45 S46 =>
 (if t45 then .ok true S46 else (R.bind (R.bind (R.bind (R.bind (R.bind (rdT (getSl ρ 4) S46) fun d47 S48 =>
 (R.opt (itemD (view S48 d47) (.int 0)) S48)) fun d49 S50 =>
 (R.bind (R.bind (R.bind (R.opt (binD .Sub (.int 5) (.int 1)) S50) fun d51 S52 =>
 (.ok [d51] S52)) fun ds53 S54 =>
 (.ok ((.int 0) :: ds53) S54)) fun ds55 S56 =>
 (.ok (d49 :: ds55) S56))) fun ds57 S58 =>
 (C "is_within" ds57 S58)) fun d59 S60 =>
 (tstD d59 S60)) fun t61 S62 =>
 (.ok (!t61) S62)))))) ρ fun t63 S64 =>
 (if t63 then (O.seq (.ret .non S64) fun ρ65 S66 =>
(.nx ρ65 S66)) else (.nx ρ S64))) fun ρ67 S68 =>
(O.seq (if decide (5 < ρ67.length) then (R.run (R.bind (R.bind (R.bind (rdT (getSl ρ67 4) S68) fun d69 S70 =>
 (R.opt (itemD (view S70 d69) (.int 1)) S70)) fun d71 S72 =>
 (R.bind (R.bind (R.bind (rdT (getSl ρ67 1) S72) fun d73 S74 =>
 (R.opt (binD .Sub (view S74 d73) (.int 1)) S74)) fun d75 S76 =>
 (.ok [d75] S76)) fun ds77 S78 =>
 (.ok (d71 :: ds77) S78))) fun ds79 S80 =>
 (C "measure" ds79 S80)) ρ67 fun d81 S82 =>
 (.nx (ρ67.set 5 (.val d81)) S82)) else .bad) fun ρ83 S84 =>
(O.seq (R.run (R.bind (R.bind (rdT (getSl ρ83 5) S84) fun d85 S86 =>
 (R.opt ((cmpD .Is (view S86 d85) .non).map D.bl) S86)) fun d87 S88 =>
 (blD d87 S88)) ρ83 fun t89 S90 =>
 (if t89 then (O.seq (.ret .non S90) fun ρ91 S92 =>
(.nx ρ91 S92)) else (.nx ρ83 S90))) fun ρ93 S94 =>
(O.seq (if decide (2 < ρ93.length) then (augS (getSl ρ93 2) fun d0 => (R.run (R.bind (R.bind (rdT (getSl ρ93 5) S94) fun d95 S96 =>
 (R.opt (itemD (view S96 d95) (.int 0)) S96)) fun d97 S98 =>
 (R.opt (binD .Add (.int 1) (view S98 d97)) S98)) ρ93 fun d99 S100 =>
 (optS (augD .Add d0 d99) fun d2 => .nx (ρ93.set 2 (.val d2)) S100))) else .bad) fun ρ101 S102 =>
(O.seq (if decide (3 < ρ101.length) then (R.run (R.bind (R.bind (rdT (getSl ρ101 3) S102) fun d103 S104 =>
 (R.bind (R.bind (R.bind (R.bind (rdT (getSl ρ101 5) S104) fun d105 S106 =>
 (R.opt (itemD (view S106 d105) (.int 1)) S106)) fun d107 S108 =>
 (R.opt (binD .Add (.int 1) (view S108 d107)) S108)) fun d109 S110 =>
 (.ok [d109] S110)) fun ds111 S112 =>
 (.ok (d103 :: ds111) S112))) fun ds113 S114 =>
 (R.opt (callD "max" (ds113.map (view S114))) S114)) ρ101 fun d115 S116 =>
 (.nx (ρ101.set 3 (.val d115)) S116)) else .bad) fun ρ117 S118 =>
(O.seq (R.run (R.bind (R.bind (rdT (getSl ρ117 2) S118) fun d119 S120 =>
 (R.opt ((cmpD .Gt (view S120 d119) (.int 300)).map D.bl) S120)) fun d121 S122 =>
 (blD d121 S122)) ρ117 fun t123 S124 =>
 (if t123 then (O.seq (.ret .non S124) fun ρ125 S126 =>
(.nx ρ125 S126)) else (.nx ρ117 S124))) fun ρ127 S128 =>
(.nx ρ127 S128)))))))
def s_measure_l1 (C : Call) (d : D) (ρ : Ev) (S : Sto) : O := asg1 (asgG 50 (.nm 4) d ρ) S (s_measure_l1_b C)
def s_measure_b (C : Call) (ρ : Ev) (S : Sto) : O :=
(O.seq (R.run (R.bind (R.bind (R.bind (R.bind (rdT (getSl ρ 0) S) fun d1 S2 =>
 (R.opt ((isiD "tuple" (view S2 d1)).map D.bl) S2)) fun d3 S4 =>
 (tstD d3 S4)) fun t5 S6 =>
 (.ok (!t5) S6)) fun t7 S8 =>
 (if t7 then .ok true S8 else (R.bind (R.bind (R.bind (rdT (getSl ρ 0) S8) fun d9 S10 =>
 (R.opt ((cmpD .NotEq (view S10 d9) (.tup [])).map D.bl) S10)) fun d11 S12 =>
 (blD d11 S12)) fun t13 S14 =>
 (if t13 then (R.bind (R.bind (rdT (getSl ρ 1) S14) fun d15 S16 =>
 (R.opt ((cmpD .Eq (view S16 d15) (.int 0)).map D.bl) S16)) fun d17 S18 =>
 (blD d17 S18)) else .ok false S14)))) ρ fun t19 S20 =>
 (if t19 then (O.seq (.ret .non S20) fun ρ21 S22 =>
(.nx ρ21 S22)) else (.nx ρ S20))) fun ρ23 S24 =>
(O.seq (if decide (2 < ρ23.length) then (.nx (ρ23.set 2 (.val (.int 0))) S24) else .bad) fun ρ25 S26 =>
(O.seq (if decide (3 < ρ25.length) then (.nx (ρ25.set 3 (.val (.int 0))) S26) else .bad) fun ρ27 S28 =>
(O.seq (R.run (R.bind (rdE (getSl (fz ρ27 0) 0) S28) fun d129 S130 =>
 (R.opt (itemsD d129) S130)) (fz ρ27 0) fun ds131 S132 =>
 (forL (s_measure_l1 C) ds131 (fz ρ27 0) S132)) fun ρ133 S134 =>
(O.seq (R.run (R.bind (R.bind (rdE (getSl (fz (fz ρ133 2) 3) 2) S134) fun d135 S136 =>
 (R.bind (R.bind (rdE (getSl (fz (fz ρ133 2) 3) 3) S136) fun d137 S138 =>
 (.ok [d137] S138)) fun ds139 S140 =>
 (.ok (d135 :: ds139) S140))) fun ds141 S142 =>
 (if (ds141).length ≤ LINE then .ok (.tup ds141) S142 else .bad)) (fz (fz ρ133 2) 3) fun d143 S144 =>
 (.ret d143 S144)) fun ρ145 S146 =>
(.nx ρ145 S146))))))
def s_measure (C : Call) (a0 a1 : D) (S : Sto) : R D := O.fin (s_measure_b C [.val a0, .val a1, .un, .un, .un, .un] S)
def s_check_document_b (C : Call) (ρ : Ev) (S : Sto) : O :=
(O.seq (R.run (R.bind (R.bind (R.bind (R.bind (rdE (getSl (fz ρ 0) 0) S) fun d1 S2 =>
 (.ok [d1, (.int 30)] S2)) fun ds3 S4 =>
 (C "measure" ds3 S4)) fun d5 S6 =>
 (R.opt ((cmpD .Is (view S6 d5) .non).map D.bl) S6)) fun d7 S8 =>
 (blD d7 S8)) (fz ρ 0) fun t9 S10 =>
 (if t9 then (O.seq (.err "BadDocument" (fz ρ 0) S10) fun ρ11 S12 =>
(.nx ρ11 S12)) else (.nx (fz ρ 0) S10))) fun ρ13 S14 =>
(.nx ρ13 S14))
def s_check_document (C : Call) (a0 : D) (S : Sto) : R D := O.fin (s_check_document_b C [.val a0] S)
def s_trees_in_c1_t (C : Call) (ρ : Ev) (S : Sto) : R Bool :=
 .ok true S
def s_trees_in_c1_e (C : Call) (ρ : Ev) (S : Sto) : R D :=
 (R.bind (R.bind (R.bind (rdE (getSl ρ 2) S) fun d1 S2 =>
 (.ok [d1] S2)) fun ds3 S4 =>
 (C "trees_in" ds3 S4)) fun d5 S6 =>
 (R.opt (binD .Add (.int 1) (view S6 d5)) S6))
def s_trees_in_c1 (C : Call) (ρ : Ev) (d : D) (S : Sto) : R (Option D) := lcStep (s_trees_in_c1_t C) (s_trees_in_c1_e C) S (asgG 50 (.tp [(.nm 1), (.nm 2)]) d (wipeE ρ [1, 2]))
def s_trees_in_b (C : Call) (ρ : Ev) (S : Sto) : O :=
(O.seq (R.run (R.bind (R.bind (R.bind (R.bind (rdE (getSl (fz (fz ρ 0) 2) 0) S) fun d7 S8 =>
 (R.opt (itemsD d7) S8)) fun ds9 S10 =>
 (if (ds9).length ≤ LINE then R.bind (compL (s_trees_in_c1 C (fz (fz ρ 0) 2)) ds9 [] S10) fun ys S5 => .ok (.lst ys) S5 else .bad)) fun d11 S12 =>
 (.ok [d11] S12)) fun ds13 S14 =>
 (R.opt (callD "sum" (ds13.map (view S14))) S14)) (fz (fz ρ 0) 2) fun d15 S16 =>
 (.ret d15 S16)) fun ρ17 S18 =>
(.nx ρ17 S18))
def s_trees_in (C : Call) (a0 : D) (S : Sto) : R D := O.fin (s_trees_in_b C [.val a0, .un, .un] S)
def s_size_b (C : Call) (ρ : Ev) (S : Sto) : O :=
(O.seq (R.run (R.bind (R.bind (rdE (getSl (fz ρ 0) 0) S) fun d1 S2 =>
 (.ok [d1] S2)) fun ds3 S4 =>
 (C "check_document" ds3 S4)) (fz ρ 0) fun d5 S6 =>
 (.nx (fz ρ 0) S6)) fun ρ7 S8 =>
(O.seq (R.run (R.bind (R.bind (rdE (getSl (fz ρ7 0) 0) S8) fun d9 S10 =>
 (.ok [d9] S10)) fun ds11 S12 =>
 (C "trees_in" ds11 S12)) (fz ρ7 0) fun d13 S14 =>
 (.ret d13 S14)) fun ρ15 S16 =>
(.nx ρ15 S16)))
def s_size (C : Call) (a0 : D) (S : Sto) : R D := O.fin (s_size_b C [.val a0] S)
def s_compared_l1_b (C : Call) (ρ : Ev) (S : Sto) : O :=
 (O.seq (R.run (R.bind (R.bind (rdT (getSl ρ 5) S) fun d41 S42 =>
 (R.bind (rdT (getSl ρ 7) S42) fun d43 S44 =>
 (R.opt ((cmpD .NotEq (view S44 d41) (view S44 d43)).map D.bl) S44))) fun d45 S46 =>
 (blD d45 S46)) ρ fun t47 S48 =>
 (if t47 then (O.seq (R.run (R.bind (R.bind (R.bind (rdT (getSl ρ 5) S48) fun d49 S50 =>
 (R.bind (rdT (getSl ρ 7) S50) fun d51 S52 =>
 (R.opt ((cmpD .Lt (view S52 d49) (view S52 d51)).map D.bl) S52))) fun d53 S54 =>
 (blD d53 S54)) fun t55 S56 =>
 (if t55 then (.ok (.int (-1)) S56) else (.ok (.int 1) S56))) ρ fun d57 S58 =>
 (.ret d57 S58)) fun ρ59 S60 =>
(.nx ρ59 S60)) else (.nx ρ S48))) fun ρ61 S62 =>
(O.seq (if decide (4 < (fz (fz ρ61 6) 8).length) then (R.run (R.bind (R.bind (rdE (getSl (fz (fz ρ61 6) 8) 6) S62) fun d63 S64 =>
 (R.bind (R.bind (rdE (getSl (fz (fz ρ61 6) 8) 8) S64) fun d65 S66 =>
 (.ok [d65] S66)) fun ds67 S68 =>
 (.ok (d63 :: ds67) S68))) fun ds69 S70 =>
 (C "compared" ds69 S70)) (fz (fz ρ61 6) 8) fun d71 S72 =>
 (.nx ((fz (fz ρ61 6) 8).set 4 (.val d71)) S72)) else .bad) fun ρ73 S74 =>
(O.seq (R.run (R.bind (R.bind (rdT (getSl ρ73 4) S74) fun d75 S76 =>
 (R.opt ((cmpD .NotEq (view S76 d75) (.int 0)).map D.bl) S76)) fun d77 S78 =>
 (blD d77 S78)) ρ73 fun t79 S80 =>
 (if t79 then (O.seq (R.run (rdE (getSl (fz ρ73 4) 4) S80) (fz ρ73 4) fun d81 S82 =>
 (.ret d81 S82)) fun ρ83 S84 =>
(.nx ρ83 S84)) else (.nx ρ73 S80))) fun ρ85 S86 =>
(.nx ρ85 S86))))
def s_compared_l1 (C : Call) (d : D) (ρ : Ev) (S : Sto) : O := asg1 (asgG 50 (.tp [(.tp [(.nm 5), (.nm 6)]), (.tp [(.nm 7), (.nm 8)])]) d ρ) S (s_compared_l1_b C)
def s_compared_b (C : Call) (ρ : Ev) (S : Sto) : O :=
(O.seq (if decide (2 < (fz (fz ρ 0) 1).length) && decide (3 < (fz (fz ρ 0) 1).length) && true && true then (R.run (R.bind (R.bind (R.bind (rdE (getSl (fz (fz ρ 0) 1) 0) S) fun d1 S2 =>
 (.ok [d1] S2)) fun ds3 S4 =>
 (C "trees_in" ds3 S4)) fun d5 S6 =>
 (R.bind (R.bind (R.bind (R.bind (rdE (getSl (fz (fz ρ 0) 1) 1) S6) fun d7 S8 =>
 (.ok [d7] S8)) fun ds9 S10 =>
 (C "trees_in" ds9 S10)) fun d11 S12 =>
 (.ok [d11] S12)) fun ds13 S14 =>
 (.ok (d5 :: ds13) S14))) (fz (fz ρ 0) 1) fun ds15 S16 =>
 (twoD ds15 fun a b => .nx (((fz (fz ρ 0) 1).set 2 (.val a)).set 3 (.val b)) S16)) else .bad) fun ρ17 S18 =>
(O.seq (R.run (R.bind (R.bind (rdT (getSl ρ17 2) S18) fun d19 S20 =>
 (R.bind (rdT (getSl ρ17 3) S20) fun d21 S22 =>
 (R.opt ((cmpD .NotEq (view S22 d19) (view S22 d21)).map D.bl) S22))) fun d23 S24 =>
 (blD d23 S24)) ρ17 fun t25 S26 =>
 (if t25 then (O.seq (R.run (R.bind (R.bind (R.bind (rdT (getSl ρ17 2) S26) fun d27 S28 =>
 (R.bind (rdT (getSl ρ17 3) S28) fun d29 S30 =>
 (R.opt ((cmpD .Lt (view S30 d27) (view S30 d29)).map D.bl) S30))) fun d31 S32 =>
 (blD d31 S32)) fun t33 S34 =>
 (if t33 then (.ok (.int (-1)) S34) else (.ok (.int 1) S34))) ρ17 fun d35 S36 =>
 (.ret d35 S36)) fun ρ37 S38 =>
(.nx ρ37 S38)) else (.nx ρ17 S26))) fun ρ39 S40 =>
(O.seq (R.run (R.bind (R.bind (rdE (getSl (fz (fz ρ39 0) 1) 0) S40) fun d87 S88 =>
 (R.bind (R.bind (rdE (getSl (fz (fz ρ39 0) 1) 1) S88) fun d89 S90 =>
 (.ok [d89] S90)) fun ds91 S92 =>
 (.ok (d87 :: ds91) S92))) fun ds93 S94 =>
 (zipA ds93 S94)) (fz (fz ρ39 0) 1) fun ds95 S96 =>
 (forL (s_compared_l1 C) ds95 (fz (fz ρ39 0) 1) S96)) fun ρ97 S98 =>
(O.seq (.ret (.int 0) S98) fun ρ99 S100 =>
(.nx ρ99 S100)))))
def s_compared (C : Call) (a0 a1 : D) (S : Sto) : R D := O.fin (s_compared_b C [.val a0, .val a1, .un, .un, .un, .un, .un, .un, .un] S)
def s_before_b (C : Call) (ρ : Ev) (S : Sto) : O :=
(O.seq (R.run (R.bind (R.bind (rdE (getSl (fz ρ 0) 0) S) fun d1 S2 =>
 (.ok [d1] S2)) fun ds3 S4 =>
 (C "check_document" ds3 S4)) (fz ρ 0) fun d5 S6 =>
 (.nx (fz ρ 0) S6)) fun ρ7 S8 =>
(O.seq (R.run (R.bind (R.bind (rdE (getSl (fz ρ7 1) 1) S8) fun d9 S10 =>
 (.ok [d9] S10)) fun ds11 S12 =>
 (C "check_document" ds11 S12)) (fz ρ7 1) fun d13 S14 =>
 (.nx (fz ρ7 1) S14)) fun ρ15 S16 =>
(O.seq (R.run (R.bind (R.bind (rdE (getSl (fz (fz ρ15 0) 1) 0) S16) fun d17 S18 =>
 (R.bind (R.bind (rdE (getSl (fz (fz ρ15 0) 1) 1) S18) fun d19 S20 =>
 (.ok [d19] S20)) fun ds21 S22 =>
 (.ok (d17 :: ds21) S22))) fun ds23 S24 =>
 (C "compared" ds23 S24)) (fz (fz ρ15 0) 1) fun d25 S26 =>
 (.ret d25 S26)) fun ρ27 S28 =>
(.nx ρ27 S28))))
def s_before (C : Call) (a0 a1 : D) (S : Sto) : R D := O.fin (s_before_b C [.val a0, .val a1] S)
def s__law_box_c1_t (C : Call) (ρ : Ev) (S : Sto) : R Bool :=
 .ok true S
def s__law_box_c1_e (C : Call) (ρ : Ev) (S : Sto) : R D :=
 (R.bind (R.bind (R.bind (R.bind (rdT (getSl ρ 1) S) fun d1 S2 =>
 (.ok [d1] S2)) fun ds3 S4 =>
 (R.opt (callD "int" (ds3.map (view S4))) S4)) fun d5 S6 =>
 (.ok [d5] S6)) fun ds7 S8 =>
 (R.opt (callD "abs" (ds7.map (view S8))) S8))
def s__law_box_c1 (C : Call) (ρ : Ev) (d : D) (S : Sto) : R (Option D) := lcStep (s__law_box_c1_t C) (s__law_box_c1_e C) S (asgG 50 (.nm 1) d (wipeE ρ [1]))
def s__law_box_b (C : Call) (ρ : Ev) (S : Sto) : O :=
(O.seq (R.run (R.bind (R.bind (R.bind (R.bind (R.bind (R.bind (rdE (getSl (fz ρ 0) 0) S) fun d9 S10 =>
 (R.opt (itemsD d9) S10)) fun ds11 S12 =>
 (if (ds11).length ≤ LINE then R.bind (compL (s__law_box_c1 C (fz ρ 0)) ds11 [] S12) fun ys S5 => .ok (.lst ys) S5 else .bad)) fun d13 S14 =>
 (.ok [d13] S14)) fun ds15 S16 =>
 (.ok ((.int 0) :: ds15) S16)) fun ds17 S18 =>
 (.ok ((.int 0) :: ds17) S18)) fun ds19 S20 =>
 (.ok ((.int 0) :: ds19) S20)) (fz ρ 0) fun ds21 S22 =>
 (if (ds21).length ≤ LINE then .ret (.ref S22.length) (S22 ++ [.lst ds21]) else .bad)) fun ρ23 S24 =>
(.nx ρ23 S24))
def s__law_box (C : Call) (a0 : D) (S : Sto) : R D := O.fin (s__law_box_b C [.val a0, .un] S)
def s__law_take_b (C : Call) (ρ : Ev) (S : Sto) : O :=
(O.seq (R.run (R.bind (R.bind (R.bind (rdT (getSl ρ 0) S) fun d1 S2 =>
 (R.opt (itemD (view S2 d1) (.int 1)) S2)) fun d3 S4 =>
 (R.opt ((cmpD .Eq (view S4 d3) (.int 0)).map D.bl) S4)) fun d5 S6 =>
 (blD d5 S6)) ρ fun t7 S8 =>
 (if t7 then (O.seq (if decide (2 < ρ.length) then (R.run (R.bind (rdT (getSl ρ 0) S8) fun d9 S10 =>
 (R.opt (itemD (view S10 d9) (.int 2)) S10)) ρ fun d11 S12 =>
 (.nx (ρ.set 2 (.val d11)) S12)) else .bad) fun ρ13 S14 =>
(O.seq (if decide (3 < ρ13.length) then (.nx (ρ13.set 3 (.val (.int 0))) S14) else .bad) fun ρ15 S16 =>
(O.seq (R.run (R.bind (R.bind (rdT (getSl ρ15 2) S16) fun d17 S18 =>
 (R.bind (R.bind (R.bind (R.bind (rdT (getSl ρ15 0) S18) fun d19 S20 =>
 (R.opt (itemD (view S20 d19) (.int 3)) S20)) fun d21 S22 =>
 (.ok [d21] S22)) fun ds23 S24 =>
 (R.opt (callD "len" (ds23.map (view S24))) S24)) fun d25 S26 =>
 (R.opt ((cmpD .Lt (view S26 d17) (view S26 d25)).map D.bl) S26))) fun d27 S28 =>
 (blD d27 S28)) ρ15 fun t29 S30 =>
 (if t29 then (O.seq (if decide (3 < (fz ρ15 2).length) then (R.run (R.bind (R.bind (rdT (getSl (fz ρ15 2) 0) S30) fun d31 S32 =>
 (R.opt (itemD (view S32 d31) (.int 3)) S32)) fun d33 S34 =>
 (R.bind (rdE (getSl (fz ρ15 2) 2) S34) fun d35 S36 =>
 (R.opt (itemD (view S36 d33) d35) S36))) (fz ρ15 2) fun d37 S38 =>
 (.nx ((fz ρ15 2).set 3 (.val d37)) S38)) else .bad) fun ρ39 S40 =>
(O.seq (R.run (R.bind (R.bind (R.bind (rdT (getSl ρ39 3) S40) fun d41 S42 =>
 (R.bind (R.opt (binD .Pow (.int 10) (.int 18)) S42) fun d43 S44 =>
 (R.opt ((cmpD .GtE (view S44 d41) (view S44 d43)).map D.bl) S44))) fun d45 S46 =>
 (blD d45 S46)) fun t47 S48 =>
 (if t47 then (.ok (.int 60) S48) else (.ok (.int (-9)) S48))) ρ39 fun d49 S50 =>
 (R.run (rdE (getSl ρ39 0) S50) ρ39 fun d51 S52 =>
 (subD d51 (.int 1) d49 ρ39 S52))) fun ρ53 S54 =>
(.nx ρ53 S54))) else (.nx ρ15 S30))) fun ρ55 S56 =>
(O.seq (R.run (R.bind (rdT (getSl ρ55 2) S56) fun d57 S58 =>
 (R.opt (binD .Add (view S58 d57) (.int 1)) S58)) ρ55 fun d59 S60 =>
 (R.run (rdE (getSl ρ55 0) S60) ρ55 fun d61 S62 =>
 (subD d61 (.int 2) d59 ρ55 S62))) fun ρ63 S64 =>
(O.seq (R.run (rdE (getSl (fz ρ63 3) 3) S64) (fz ρ63 3) fun d65 S66 =>
 (R.run (rdE (getSl (fz ρ63 3) 0) S66) (fz ρ63 3) fun d67 S68 =>
 (subD d67 (.int 0) d65 (fz ρ63 3) S68))) fun ρ69 S70 =>
(O.seq (R.run (R.bind (R.bind (R.bind (rdT (getSl ρ69 0) S70) fun d71 S72 =>
 (R.opt (itemD (view S72 d71) (.int 1)) S72)) fun d73 S74 =>
 (R.opt ((cmpD .Eq (view S74 d73) (.int 0)).map D.bl) S74)) fun d75 S76 =>
 (blD d75 S76)) ρ69 fun t77 S78 =>
 (if t77 then (O.seq (.ret (.int 0) S78) fun ρ79 S80 =>
(.nx ρ79 S80)) else (.nx ρ69 S78))) fun ρ81 S82 =>
(.nx ρ81 S82))))))) else (.nx ρ S8))) fun ρ83 S84 =>
(O.seq (R.run (R.bind (R.bind (R.bind (rdT (getSl ρ83 0) S84) fun d85 S86 =>
 (R.opt (itemD (view S86 d85) (.int 1)) S86)) fun d87 S88 =>
 (R.opt ((cmpD .Gt (view S88 d87) (.int 0)).map D.bl) S88)) fun d89 S90 =>
 (blD d89 S90)) ρ83 fun t91 S92 =>
 (if t91 then (O.seq (if decide (4 < ρ83.length) then (R.run (R.bind (R.bind (R.bind (R.bind (rdT (getSl ρ83 0) S92) fun d93 S94 =>
 (R.opt (itemD (view S94 d93) (.int 0)) S94)) fun d95 S96 =>
 (.ok [d95] S96)) fun ds97 S98 =>
 (R.opt (callD "int" (ds97.map (view S98))) S98)) fun d99 S100 =>
 (R.bind (rdT (getSl ρ83 1) S100) fun d101 S102 =>
 (R.opt (binD .Mod (view S102 d99) (view S102 d101)) S102))) ρ83 fun d103 S104 =>
 (.nx (ρ83.set 4 (.val d103)) S104)) else .bad) fun ρ105 S106 =>
(O.seq (R.run (R.bind (R.bind (rdT (getSl ρ105 0) S106) fun d107 S108 =>
 (R.opt (itemD (view S108 d107) (.int 0)) S108)) fun d109 S110 =>
 (R.bind (rdT (getSl ρ105 1) S110) fun d111 S112 =>
 (R.opt (binD .FloorDiv (view S112 d109) (view S112 d111)) S112))) ρ105 fun d113 S114 =>
 (R.run (rdE (getSl ρ105 0) S114) ρ105 fun d115 S116 =>
 (subD d115 (.int 0) d113 ρ105 S116))) fun ρ117 S118 =>
(O.seq (R.run (R.bind (R.bind (R.bind (R.bind (rdT (getSl ρ117 0) S118) fun d119 S120 =>
 (R.opt (itemD (view S120 d119) (.int 0)) S120)) fun d121 S122 =>
 (R.opt ((cmpD .Gt (view S122 d121) (.int 0)).map D.bl) S122)) fun d123 S124 =>
 (blD d123 S124)) fun t125 S126 =>
 (if t125 then (R.bind (R.bind (rdT (getSl ρ117 0) S126) fun d127 S128 =>
 (R.opt (itemD (view S128 d127) (.int 1)) S128)) fun d129 S130 =>
 (R.opt (binD .Sub (view S130 d129) (.int 1)) S130)) else (.ok (.int 0) S126))) ρ117 fun d131 S132 =>
 (R.run (rdE (getSl ρ117 0) S132) ρ117 fun d133 S134 =>
 (subD d133 (.int 1) d131 ρ117 S134))) fun ρ135 S136 =>
(O.seq (R.run (rdE (getSl (fz ρ135 4) 4) S136) (fz ρ135 4) fun d137 S138 =>
 (.ret d137 S138)) fun ρ139 S140 =>
(.nx ρ139 S140))))) else (.nx ρ83 S92))) fun ρ141 S142 =>
(O.seq (R.run (R.bind (R.bind (rdT (getSl ρ141 0) S142) fun d143 S144 =>
 (R.opt (itemD (view S144 d143) (.int 1)) S144)) fun d145 S146 =>
 (R.opt (binD .Add (view S146 d145) (.int 1)) S146)) ρ141 fun d147 S148 =>
 (R.run (rdE (getSl ρ141 0) S148) ρ141 fun d149 S150 =>
 (subD d149 (.int 1) d147 ρ141 S150))) fun ρ151 S152 =>
(O.seq (R.run (R.bind (R.bind (R.bind (R.bind (R.bind (R.bind (rdT (getSl ρ151 0) S152) fun d153 S154 =>
 (R.opt (itemD (view S154 d153) (.int 0)) S154)) fun d155 S156 =>
 (R.opt (binD .Mult (view S156 d155) (.int 48271)) S156)) fun d157 S158 =>
 (R.bind (R.bind (R.bind (R.bind (rdT (getSl ρ151 0) S158) fun d159 S160 =>
 (R.opt (itemD (view S160 d159) (.int 1)) S160)) fun d161 S162 =>
 (R.opt (binD .Add (view S162 d161) (.int 20)) S162)) fun d163 S164 =>
 (R.opt (binD .Mult (.int 69621) (view S164 d163)) S164)) fun d165 S166 =>
 (R.opt (binD .Add (view S166 d157) (view S166 d165)) S166))) fun d167 S168 =>
 (.ok [d167] S168)) fun ds169 S170 =>
 (R.opt (callD "int" (ds169.map (view S170))) S170)) fun d171 S172 =>
 (R.opt (binD .Mod (view S172 d171) (.int 2147483647)) S172)) ρ151 fun d173 S174 =>
 (R.run (rdE (getSl ρ151 0) S174) ρ151 fun d175 S176 =>
 (subD d175 (.int 0) d173 ρ151 S176))) fun ρ177 S178 =>
(O.seq (R.run (R.bind (R.bind (R.bind (R.bind (R.bind (R.bind (R.bind (rdT (getSl ρ177 0) S178) fun d179 S180 =>
 (R.opt (itemD (view S180 d179) (.int 0)) S180)) fun d181 S182 =>
 (R.opt (binD .FloorDiv (view S182 d181) (.int 7)) S182)) fun d183 S184 =>
 (R.bind (R.bind (rdT (getSl ρ177 0) S184) fun d185 S186 =>
 (R.opt (itemD (view S186 d185) (.int 0)) S186)) fun d187 S188 =>
 (R.opt (binD .Add (view S188 d183) (view S188 d187)) S188))) fun d189 S190 =>
 (.ok [d189] S190)) fun ds191 S192 =>
 (R.opt (callD "int" (ds191.map (view S192))) S192)) fun d193 S194 =>
 (R.opt (binD .Mod (view S194 d193) (.int 1000003)) S194)) fun d195 S196 =>
 (R.bind (rdT (getSl ρ177 1) S196) fun d197 S198 =>
 (R.opt (binD .Mod (view S198 d195) (view S198 d197)) S198))) ρ177 fun d199 S200 =>
 (.ret d199 S200)) fun ρ201 S202 =>
(.nx ρ201 S202))))))
def s__law_take (C : Call) (a0 a1 : D) (S : Sto) : R D := O.fin (s__law_take_b C [.val a0, .val a1, .un, .un, .un] S)
def s__law_pick_b (C : Call) (ρ : Ev) (S : Sto) : O :=
(O.seq (R.run (R.bind (rdT (getSl (fz ρ 0) 1) S) fun d1 S2 =>
 (R.bind (R.bind (R.bind (rdE (getSl (fz ρ 0) 0) S2) fun d3 S4 =>
 (R.bind (R.bind (R.bind (R.bind (rdT (getSl (fz ρ 0) 1) S4) fun d5 S6 =>
 (.ok [d5] S6)) fun ds7 S8 =>
 (R.opt (callD "len" (ds7.map (view S8))) S8)) fun d9 S10 =>
 (.ok [d9] S10)) fun ds11 S12 =>
 (.ok (d3 :: ds11) S12))) fun ds13 S14 =>
 (C "_law_take" ds13 S14)) fun d15 S16 =>
 (R.opt (itemD (view S16 d1) d15) S16))) (fz ρ 0) fun d17 S18 =>
 (.ret d17 S18)) fun ρ19 S20 =>
(.nx ρ19 S20))
def s__law_pick (C : Call) (a0 a1 : D) (S : Sto) : R D := O.fin (s__law_pick_b C [.val a0, .val a1] S)
def s__law_size_c1_t (C : Call) (ρ : Ev) (S : Sto) : R Bool :=
 .ok true S
def s__law_size_c1_e (C : Call) (ρ : Ev) (S : Sto) : R D :=
 (R.bind (R.bind (R.bind (R.bind (rdT (getSl ρ 1) S) fun d1 S2 =>
 (R.opt (itemD (view S2 d1) (.int 1)) S2)) fun d3 S4 =>
 (.ok [d3] S4)) fun ds5 S6 =>
 (C "_law_size" ds5 S6)) fun d7 S8 =>
 (R.opt (binD .Add (.int 1) (view S8 d7)) S8))
def s__law_size_c1 (C : Call) (ρ : Ev) (d : D) (S : Sto) : R (Option D) := lcStep (s__law_size_c1_t C) (s__law_size_c1_e C) S (asgG 50 (.nm 1) d (wipeE ρ [1]))
def s__law_size_b (C : Call) (ρ : Ev) (S : Sto) : O :=
(O.seq (R.run (R.bind (R.bind (R.bind (R.bind (rdE (getSl (fz ρ 0) 0) S) fun d9 S10 =>
 (R.opt (itemsD d9) S10)) fun ds11 S12 =>
 (if (ds11).length ≤ LINE then R.bind (compL (s__law_size_c1 C (fz ρ 0)) ds11 [] S12) fun ys S5 => .ok (.lst ys) S5 else .bad)) fun d13 S14 =>
 (.ok [d13] S14)) fun ds15 S16 =>
 (R.opt (callD "sum" (ds15.map (view S16))) S16)) (fz ρ 0) fun d17 S18 =>
 (.ret d17 S18)) fun ρ19 S20 =>
(.nx ρ19 S20))
def s__law_size (C : Call) (a0 : D) (S : Sto) : R D := O.fin (s__law_size_b C [.val a0, .un] S)
def s__law_document_l1_b (C : Call) (ρ : Ev) (S : Sto) : O :=
 (O.seq (R.run (R.bind (R.bind (R.bind (rdT (getSl (fz ρ 0) 5) S) fun d7 S8 =>
 (R.opt ((cmpD .LtE (view S8 d7) (.int 0)).map D.bl) S8)) fun d9 S10 =>
 (blD d9 S10)) fun t11 S12 =>
 (if t11 then .ok true S12 else (R.bind (R.bind (R.bind (R.bind (rdE (getSl (fz ρ 0) 0) S12) fun d13 S14 =>
 (.ok [d13, (.int 4)] S14)) fun ds15 S16 =>
 (C "_law_take" ds15 S16)) fun d17 S18 =>
 (R.opt ((cmpD .Eq (view S18 d17) (.int 0)).map D.bl) S18)) fun d19 S20 =>
 (blD d19 S20)))) (fz ρ 0) fun t21 S22 =>
 (if t21 then (O.seq (.brk (fz ρ 0) S22) fun ρ23 S24 =>
(.nx ρ23 S24)) else (.nx (fz ρ 0) S22))) fun ρ25 S26 =>
(O.seq (if decide (7 < ρ25.length) then (.nx (ρ25.set 7 (.val (.tup []))) S26) else .bad) fun ρ27 S28 =>
(O.seq (R.run (R.bind (R.bind (rdT (getSl ρ27 3) S28) fun d29 S30 =>
 (R.opt ((cmpD .Gt (view S30 d29) (.int 1)).map D.bl) S30)) fun d31 S32 =>
 (blD d31 S32)) ρ27 fun t33 S34 =>
 (if t33 then (O.seq (if decide (7 < (fz (fz (fz (fz ρ27 0) 1) 0) 5).length) then (R.run (R.bind (R.bind (rdE (getSl (fz (fz (fz (fz ρ27 0) 1) 0) 5) 0) S34) fun d35 S36 =>
 (R.bind (R.bind (rdE (getSl (fz (fz (fz (fz ρ27 0) 1) 0) 5) 1) S36) fun d37 S38 =>
 (R.bind (R.bind (R.bind (R.bind (rdE (getSl (fz (fz (fz (fz ρ27 0) 1) 0) 5) 0) S38) fun d39 S40 =>
 (R.bind (R.bind (rdE (getSl (fz (fz (fz (fz ρ27 0) 1) 0) 5) 5) S40) fun d41 S42 =>
 (.ok [d41] S42)) fun ds43 S44 =>
 (.ok (d39 :: ds43) S44))) fun ds45 S46 =>
 (C "_law_take" ds45 S46)) fun d47 S48 =>
 (R.bind (R.bind (R.bind (rdT (getSl (fz (fz (fz (fz ρ27 0) 1) 0) 5) 3) S48) fun d49 S50 =>
 (R.opt (binD .Sub (view S50 d49) (.int 1)) S50)) fun d51 S52 =>
 (.ok [d51] S52)) fun ds53 S54 =>
 (.ok (d47 :: ds53) S54))) fun ds55 S56 =>
 (.ok (d37 :: ds55) S56))) fun ds57 S58 =>
 (.ok (d35 :: ds57) S58))) fun ds59 S60 =>
 (C "_law_document" ds59 S60)) (fz (fz (fz (fz ρ27 0) 1) 0) 5) fun d61 S62 =>
 (.nx ((fz (fz (fz (fz ρ27 0) 1) 0) 5).set 7 (.val d61)) S62)) else .bad) fun ρ63 S64 =>
(.nx ρ63 S64)) else (.nx ρ27 S34))) fun ρ65 S66 =>
(O.seq (appS (getSl (fz (fz (fz ρ65 0) 1) 7) 4) fun ds => (R.run (R.bind (R.bind (R.bind (R.bind (rdE (getSl (fz (fz (fz ρ65 0) 1) 7) 0) S66) fun d67 S68 =>
 (R.bind (R.bind (rdE (getSl (fz (fz (fz ρ65 0) 1) 7) 1) S68) fun d69 S70 =>
 (.ok [d69] S70)) fun ds71 S72 =>
 (.ok (d67 :: ds71) S72))) fun ds73 S74 =>
 (C "_law_pick" ds73 S74)) fun d75 S76 =>
 (R.bind (R.bind (rdE (getSl (fz (fz (fz ρ65 0) 1) 7) 7) S76) fun d77 S78 =>
 (.ok [d77] S78)) fun ds79 S80 =>
 (.ok (d75 :: ds79) S80))) fun ds81 S82 =>
 (if (ds81).length ≤ LINE then .ok (.tup ds81) S82 else .bad)) (fz (fz (fz ρ65 0) 1) 7) fun d83 S84 =>
 (if ds.length < LINE then .nx ((fz (fz (fz ρ65 0) 1) 7).set 4 (.own (ds ++ [d83]))) S84 else .bad))) fun ρ85 S86 =>
(O.seq (if decide (5 < (fz ρ85 7).length) then (R.run (R.bind (R.bind (rdT (getSl (fz ρ85 7) 5) S86) fun d87 S88 =>
 (R.opt (binD .Sub (view S88 d87) (.int 1)) S88)) fun d89 S90 =>
 (R.bind (R.bind (R.bind (rdE (getSl (fz ρ85 7) 7) S90) fun d91 S92 =>
 (.ok [d91] S92)) fun ds93 S94 =>
 (C "_law_size" ds93 S94)) fun d95 S96 =>
 (R.opt (binD .Sub (view S96 d89) (view S96 d95)) S96))) (fz ρ85 7) fun d97 S98 =>
 (.nx ((fz ρ85 7).set 5 (.val d97)) S98)) else .bad) fun ρ99 S100 =>
(.nx ρ99 S100))))))
def s__law_document_l1 (C : Call) (d : D) (ρ : Ev) (S : Sto) : O := asg1 (asgG 50 (.nm 6) d ρ) S (s__law_document_l1_b C)
def s__law_document_b (C : Call) (ρ : Ev) (S : Sto) : O :=
(O.seq (if decide (4 < ρ.length) then (.nx (ρ.set 4 (.own [])) S) else .bad) fun ρ1 S2 =>
(O.seq (if decide (5 < (fz ρ1 2).length) then (R.run (rdE (getSl (fz ρ1 2) 2) S2) (fz ρ1 2) fun d3 S4 =>
 (.nx ((fz ρ1 2).set 5 (.val d3)) S4)) else .bad) fun ρ5 S6 =>
(O.seq (R.run (R.bind (R.bind (rdE (getSl ρ5 2) S6) fun d101 S102 =>
 (.ok [d101] S102)) fun ds103 S104 =>
 (rangeA1 ds103 S104)) ρ5 fun ds105 S106 =>
 (forL (s__law_document_l1 C) ds105 ρ5 S106)) fun ρ107 S108 =>
(O.seq (R.run (R.bind (R.bind (rdT (getSl ρ107 4) S108) fun d109 S110 =>
 (.ok [d109] S110)) fun ds111 S112 =>
 (R.opt (callD "tuple" (ds111.map (view S112))) S112)) ρ107 fun d113 S114 =>
 (.ret d113 S114)) fun ρ115 S116 =>
(.nx ρ115 S116)))))
def s__law_document (C : Call) (a0 a1 a2 a3 : D) (S : Sto) : R D := O.fin (s__law_document_b C [.val a0, .val a1, .val a2, .val a3, .un, .un, .un, .un] S)
def s__law_order_l1_b (C : Call) (ρ : Ev) (S : Sto) : O :=
 (O.seq (R.run (R.bind (R.bind (R.bind (R.bind (rdT (getSl (fz (fz ρ 2) 2) 0) S) fun d41 S42 =>
 (R.bind (rdE (getSl (fz (fz ρ 2) 2) 2) S42) fun d43 S44 =>
 (R.opt (itemD (view S44 d41) d43) S44))) fun d45 S46 =>
 (R.opt (itemD (view S46 d45) (.int 0)) S46)) fun d47 S48 =>
 (R.bind (R.bind (R.bind (rdT (getSl (fz (fz ρ 2) 2) 1) S48) fun d49 S50 =>
 (R.bind (rdE (getSl (fz (fz ρ 2) 2) 2) S50) fun d51 S52 =>
 (R.opt (itemD (view S52 d49) d51) S52))) fun d53 S54 =>
 (R.opt (itemD (view S54 d53) (.int 0)) S54)) fun d55 S56 =>
 (R.opt ((cmpD .NotEq (view S56 d47) (view S56 d55)).map D.bl) S56))) fun d57 S58 =>
 (blD d57 S58)) (fz (fz ρ 2) 2) fun t59 S60 =>
 (if t59 then (O.seq (R.run (R.bind (R.bind (R.bind (R.bind (R.bind (rdT (getSl (fz (fz (fz (fz ρ 2) 2) 2) 2) 0) S60) fun d61 S62 =>
 (R.bind (rdE (getSl (fz (fz (fz (fz ρ 2) 2) 2) 2) 2) S62) fun d63 S64 =>
 (R.opt (itemD (view S64 d61) d63) S64))) fun d65 S66 =>
 (R.opt (itemD (view S66 d65) (.int 0)) S66)) fun d67 S68 =>
 (R.bind (R.bind (R.bind (rdT (getSl (fz (fz (fz (fz ρ 2) 2) 2) 2) 1) S68) fun d69 S70 =>
 (R.bind (rdE (getSl (fz (fz (fz (fz ρ 2) 2) 2) 2) 2) S70) fun d71 S72 =>
 (R.opt (itemD (view S72 d69) d71) S72))) fun d73 S74 =>
 (R.opt (itemD (view S74 d73) (.int 0)) S74)) fun d75 S76 =>
 (R.opt ((cmpD .Lt (view S76 d67) (view S76 d75)).map D.bl) S76))) fun d77 S78 =>
 (blD d77 S78)) fun t79 S80 =>
 (if t79 then (.ok (.int (-1)) S80) else (.ok (.int 1) S80))) (fz (fz (fz (fz ρ 2) 2) 2) 2) fun d81 S82 =>
 (.ret d81 S82)) fun ρ83 S84 =>
(.nx ρ83 S84)) else (.nx (fz (fz ρ 2) 2) S60))) fun ρ85 S86 =>
(O.seq (if decide (5 < (fz (fz ρ85 2) 2).length) then (R.run (R.bind (R.bind (R.bind (R.bind (rdT (getSl (fz (fz ρ85 2) 2) 0) S86) fun d87 S88 =>
 (R.bind (rdE (getSl (fz (fz ρ85 2) 2) 2) S88) fun d89 S90 =>
 (R.opt (itemD (view S90 d87) d89) S90))) fun d91 S92 =>
 (R.opt (itemD (view S92 d91) (.int 1)) S92)) fun d93 S94 =>
 (R.bind (R.bind (R.bind (R.bind (rdT (getSl (fz (fz ρ85 2) 2) 1) S94) fun d95 S96 =>
 (R.bind (rdE (getSl (fz (fz ρ85 2) 2) 2) S96) fun d97 S98 =>
 (R.opt (itemD (view S98 d95) d97) S98))) fun d99 S100 =>
 (R.opt (itemD (view S100 d99) (.int 1)) S100)) fun d101 S102 =>
 (.ok [d101] S102)) fun ds103 S104 =>
 (.ok (d93 :: ds103) S104))) fun ds105 S106 =>
 (C "_law_order" ds105 S106)) (fz (fz ρ85 2) 2) fun d107 S108 =>
 (.nx ((fz (fz ρ85 2) 2).set 5 (.val d107)) S108)) else .bad) fun ρ109 S110 =>
(O.seq (R.run (R.bind (R.bind (rdT (getSl ρ109 5) S110) fun d111 S112 =>
 (R.opt ((cmpD .NotEq (view S112 d111) (.int 0)).map D.bl) S112)) fun d113 S114 =>
 (blD d113 S114)) ρ109 fun t115 S116 =>
 (if t115 then (O.seq (R.run (rdE (getSl (fz ρ109 5) 5) S116) (fz ρ109 5) fun d117 S118 =>
 (.ret d117 S118)) fun ρ119 S120 =>
(.nx ρ119 S120)) else (.nx ρ109 S116))) fun ρ121 S122 =>
(.nx ρ121 S122))))
def s__law_order_l1 (C : Call) (d : D) (ρ : Ev) (S : Sto) : O := asg1 (asgG 50 (.nm 2) d ρ) S (s__law_order_l1_b C)
def s__law_order_b (C : Call) (ρ : Ev) (S : Sto) : O :=
(O.seq (if decide (3 < (fz (fz ρ 0) 1).length) && decide (4 < (fz (fz ρ 0) 1).length) && true && true then (R.run (R.bind (R.bind (R.bind (rdE (getSl (fz (fz ρ 0) 1) 0) S) fun d1 S2 =>
 (.ok [d1] S2)) fun ds3 S4 =>
 (C "_law_size" ds3 S4)) fun d5 S6 =>
 (R.bind (R.bind (R.bind (R.bind (rdE (getSl (fz (fz ρ 0) 1) 1) S6) fun d7 S8 =>
 (.ok [d7] S8)) fun ds9 S10 =>
 (C "_law_size" ds9 S10)) fun d11 S12 =>
 (.ok [d11] S12)) fun ds13 S14 =>
 (.ok (d5 :: ds13) S14))) (fz (fz ρ 0) 1) fun ds15 S16 =>
 (twoD ds15 fun a b => .nx (((fz (fz ρ 0) 1).set 3 (.val a)).set 4 (.val b)) S16)) else .bad) fun ρ17 S18 =>
(O.seq (R.run (R.bind (R.bind (rdT (getSl ρ17 3) S18) fun d19 S20 =>
 (R.bind (rdT (getSl ρ17 4) S20) fun d21 S22 =>
 (R.opt ((cmpD .NotEq (view S22 d19) (view S22 d21)).map D.bl) S22))) fun d23 S24 =>
 (blD d23 S24)) ρ17 fun t25 S26 =>
 (if t25 then (O.seq (R.run (R.bind (R.bind (R.bind (rdT (getSl ρ17 3) S26) fun d27 S28 =>
 (R.bind (rdT (getSl ρ17 4) S28) fun d29 S30 =>
 (R.opt ((cmpD .Lt (view S30 d27) (view S30 d29)).map D.bl) S30))) fun d31 S32 =>
 (blD d31 S32)) fun t33 S34 =>
 (if t33 then (.ok (.int (-1)) S34) else (.ok (.int 1) S34))) ρ17 fun d35 S36 =>
 (.ret d35 S36)) fun ρ37 S38 =>
(.nx ρ37 S38)) else (.nx ρ17 S26))) fun ρ39 S40 =>
(O.seq (R.run (R.bind (R.bind (R.bind (R.bind (R.bind (R.bind (rdT (getSl ρ39 0) S40) fun d123 S124 =>
 (.ok [d123] S124)) fun ds125 S126 =>
 (R.opt (callD "len" (ds125.map (view S126))) S126)) fun d127 S128 =>
 (R.bind (R.bind (R.bind (R.bind (rdT (getSl ρ39 1) S128) fun d129 S130 =>
 (.ok [d129] S130)) fun ds131 S132 =>
 (R.opt (callD "len" (ds131.map (view S132))) S132)) fun d133 S134 =>
 (.ok [d133] S134)) fun ds135 S136 =>
 (.ok (d127 :: ds135) S136))) fun ds137 S138 =>
 (R.opt (callD "min" (ds137.map (view S138))) S138)) fun d139 S140 =>
 (.ok [d139] S140)) fun ds141 S142 =>
 (rangeA1 ds141 S142)) ρ39 fun ds143 S144 =>
 (forL (s__law_order_l1 C) ds143 ρ39 S144)) fun ρ145 S146 =>
(O.seq (.ret (.int 0) S146) fun ρ147 S148 =>
(.nx ρ147 S148)))))
def s__law_order (C : Call) (a0 a1 : D) (S : Sto) : R D := O.fin (s__law_order_b C [.val a0, .val a1, .un, .un, .un, .un] S)
def s__law_all_c1_t (C : Call) (ρ : Ev) (S : Sto) : R Bool :=
 .ok true S
def s__law_all_c1_e (C : Call) (ρ : Ev) (S : Sto) : R D :=
 (R.bind (R.bind (R.bind (R.bind (R.bind (rdE (getSl ρ 6) S) fun d7 S8 =>
 (R.bind (R.bind (rdE (getSl ρ 8) S8) fun d9 S10 =>
 (.ok [d9] S10)) fun ds11 S12 =>
 (.ok (d7 :: ds11) S12))) fun ds13 S14 =>
 (if (ds13).length ≤ LINE then .ok (.tup ds13) S14 else .bad)) fun d15 S16 =>
 (.ok [d15] S16)) fun ds17 S18 =>
 (if (ds17).length ≤ LINE then .ok (.tup ds17) S18 else .bad)) fun d19 S20 =>
 (R.bind (rdT (getSl ρ 9) S20) fun d21 S22 =>
 (R.opt (binD .Add (view S22 d19) (view S22 d21)) S22)))
def s__law_all_c1 (C : Call) (ρ : Ev) (d : D) (S : Sto) : R (Option D) := lcStep (s__law_all_c1_t C) (s__law_all_c1_e C) S (asgG 50 (.nm 9) d (wipeE ρ [9]))
def s__law_all_l4_b (C : Call) (ρ : Ev) (S : Sto) : O :=
 (O.seq (if decide (5 < (fz (fz ρ 6) 8).length) then (R.run (R.bind (rdT (getSl (fz (fz ρ 6) 8) 5) S) fun d5 S6 =>
 (R.bind (R.bind (R.bind (R.bind (rdT (getSl (fz (fz ρ 6) 8) 2) S6) fun d23 S24 =>
 (R.bind (R.bind (R.bind (rdT (getSl (fz (fz ρ 6) 8) 3) S24) fun d25 S26 =>
 (R.opt (binD .Sub (view S26 d25) (.int 1)) S26)) fun d27 S28 =>
 (R.bind (rdT (getSl (fz (fz ρ 6) 8) 7) S28) fun d29 S30 =>
 (R.opt (binD .Sub (view S30 d27) (view S30 d29)) S30))) fun d31 S32 =>
 (R.opt (itemD (view S32 d23) d31) S32))) fun d33 S34 =>
 (R.opt (itemsD d33) S34)) fun ds35 S36 =>
 (if (ds35).length ≤ LINE then R.bind (compL (s__law_all_c1 C (fz (fz ρ 6) 8)) ds35 [] S36) fun ys S5 => .ok (.lst ys) S5 else .bad)) fun d37 S38 =>
 (R.opt (binD .Add (view S38 d5) (view S38 d37)) S38))) (fz (fz ρ 6) 8) fun d39 S40 =>
 (.nx ((fz (fz ρ 6) 8).set 5 (.val d39)) S40)) else .bad) fun ρ41 S42 =>
(.nx ρ41 S42))
def s__law_all_l4 (C : Call) (d : D) (ρ : Ev) (S : Sto) : O := asg1 (asgG 50 (.nm 8) d ρ) S (s__law_all_l4_b C)
def s__law_all_l3_b (C : Call) (ρ : Ev) (S : Sto) : O :=
 (O.seq (R.run (R.bind (R.bind (rdT (getSl (fz ρ 7) 2) S) fun d43 S44 =>
 (R.bind (rdE (getSl (fz ρ 7) 7) S44) fun d45 S46 =>
 (R.opt (itemD (view S46 d43) d45) S46))) fun d47 S48 =>
 (R.opt (itemsD d47) S48)) (fz ρ 7) fun ds49 S50 =>
 (forL (s__law_all_l4 C) ds49 (fz ρ 7) S50)) fun ρ51 S52 =>
(.nx ρ51 S52))
def s__law_all_l3 (C : Call) (d : D) (ρ : Ev) (S : Sto) : O := asg1 (asgG 50 (.nm 7) d ρ) S (s__law_all_l3_b C)
def s__law_all_l2_b (C : Call) (ρ : Ev) (S : Sto) : O :=
 (O.seq (R.run (R.bind (R.bind (rdE (getSl ρ 3) S) fun d53 S54 =>
 (.ok [d53] S54)) fun ds55 S56 =>
 (rangeA1 ds55 S56)) ρ fun ds57 S58 =>
 (forL (s__law_all_l3 C) ds57 ρ S58)) fun ρ59 S60 =>
(.nx ρ59 S60))
def s__law_all_l2 (C : Call) (d : D) (ρ : Ev) (S : Sto) : O := asg1 (asgG 50 (.nm 6) d ρ) S (s__law_all_l2_b C)
def s__law_all_l1_b (C : Call) (ρ : Ev) (S : Sto) : O :=
 (O.seq (if decide (5 < ρ.length) then (.nx (ρ.set 5 (.own [])) S) else .bad) fun ρ3 S4 =>
(O.seq (R.run (R.bind (rdE (getSl (fz ρ3 0) 0) S4) fun d61 S62 =>
 (R.opt (itemsD d61) S62)) (fz ρ3 0) fun ds63 S64 =>
 (forL (s__law_all_l2 C) ds63 (fz ρ3 0) S64)) fun ρ65 S66 =>
(O.seq (appS (getSl (fz ρ65 5) 2) fun ds => (R.run (rdE (getSl (fz ρ65 5) 5) S66) (fz ρ65 5) fun d67 S68 =>
 (if ds.length < LINE then .nx ((fz ρ65 5).set 2 (.own (ds ++ [d67]))) S68 else .bad))) fun ρ69 S70 =>
(.nx ρ69 S70))))
def s__law_all_l1 (C : Call) (d : D) (ρ : Ev) (S : Sto) : O := asg1 (asgG 50 (.nm 3) d ρ) S (s__law_all_l1_b C)
def s__law_all_l5_b (C : Call) (ρ : Ev) (S : Sto) : O :=
 (O.seq (if decide (4 < ρ.length) then (R.run (R.bind (rdT (getSl ρ 4) S) fun d85 S86 =>
 (R.bind (rdT (getSl ρ 5) S86) fun d87 S88 =>
 (R.opt (binD .Add (view S88 d85) (view S88 d87)) S88))) ρ fun d89 S90 =>
 (.nx (ρ.set 4 (.val d89)) S90)) else .bad) fun ρ91 S92 =>
(.nx ρ91 S92))
def s__law_all_l5 (C : Call) (d : D) (ρ : Ev) (S : Sto) : O := asg1 (asgG 50 (.nm 5) d ρ) S (s__law_all_l5_b C)
def s__law_all_b (C : Call) (ρ : Ev) (S : Sto) : O :=
(O.seq (if decide (2 < ρ.length) then (.nx (ρ.set 2 (.own [(.lst [(.tup [])])])) S) else .bad) fun ρ1 S2 =>
(O.seq (R.run (R.bind (R.bind (R.bind (R.bind (rdT (getSl ρ1 1) S2) fun d71 S72 =>
 (R.opt (binD .Add (view S72 d71) (.int 1)) S72)) fun d73 S74 =>
 (.ok [d73] S74)) fun ds75 S76 =>
 (.ok ((.int 1) :: ds75) S76)) fun ds77 S78 =>
 (rangeA2 ds77 S78)) ρ1 fun ds79 S80 =>
 (forL (s__law_all_l1 C) ds79 ρ1 S80)) fun ρ81 S82 =>
(O.seq (if decide (4 < ρ81.length) then (.nx (ρ81.set 4 (.own [])) S82) else .bad) fun ρ83 S84 =>
(O.seq (R.run (R.bind (rdE (getSl (fz ρ83 2) 2) S84) fun d93 S94 =>
 (R.opt (itemsD d93) S94)) (fz ρ83 2) fun ds95 S96 =>
 (forL (s__law_all_l5 C) ds95 (fz ρ83 2) S96)) fun ρ97 S98 =>
(O.seq (R.run (rdE (getSl (fz ρ97 4) 4) S98) (fz ρ97 4) fun d99 S100 =>
 (.ret d99 S100)) fun ρ101 S102 =>
(.nx ρ101 S102))))))
def s__law_all (C : Call) (a0 a1 : D) (S : Sto) : R D := O.fin (s__law_all_b C [.val a0, .val a1, .un, .un, .un, .un, .un, .un, .un, .un] S)
def s__law_behind_c1_t (C : Call) (ρ : Ev) (S : Sto) : R Bool :=
 (R.bind (R.bind (R.bind (rdT (getSl ρ 6) S) fun d3 S4 =>
 (R.bind (rdT (getSl ρ 1) S4) fun d5 S6 =>
 (R.opt ((cmpD .Eq (view S6 d3) (view S6 d5)).map D.bl) S6))) fun d7 S8 =>
 (blD d7 S8)) fun t9 S10 =>
 (if t9 then (R.bind (R.bind (R.bind (rdT (getSl ρ 7) S10) fun d11 S12 =>
 (R.bind (rdT (getSl ρ 2) S12) fun d13 S14 =>
 (R.opt ((cmpD .In (view S14 d11) (view S14 d13)).map D.bl) S14))) fun d15 S16 =>
 (blD d15 S16)) fun t17 S18 =>
 (if t17 then (R.bind (R.bind (rdT (getSl ρ 8) S18) fun d19 S20 =>
 (R.bind (rdT (getSl ρ 3) S20) fun d21 S22 =>
 (R.opt ((cmpD .In (view S22 d19) (view S22 d21)).map D.bl) S22))) fun d23 S24 =>
 (blD d23 S24)) else .ok false S18)) else .ok false S10))
def s__law_behind_c1_e (C : Call) (ρ : Ev) (S : Sto) : R D :=
 (.ok (.int 1) S)
def s__law_behind_c1 (C : Call) (ρ : Ev) (d : D) (S : Sto) : R (Option D) := lcStep (s__law_behind_c1_t C) (s__law_behind_c1_e C) S (asgG 50 (.tp [(.nm 6), (.nm 7), (.nm 8)]) d (wipeE ρ [6, 7, 8]))
def s__law_behind_l1_b (C : Call) (ρ : Ev) (S : Sto) : O :=
 (O.seq (R.run (R.bind (R.bind (R.bind (R.bind (R.bind (rdT (getSl (fz ρ 5) 0) S) fun d25 S26 =>
 (R.bind (rdE (getSl (fz ρ 5) 5) S26) fun d27 S28 =>
 (R.opt (itemD (view S28 d25) d27) S28))) fun d29 S30 =>
 (R.opt (itemD (view S30 d29) (.int 1)) S30)) fun d31 S32 =>
 (R.opt (itemsD d31) S32)) fun ds33 S34 =>
 (if (ds33).length ≤ LINE then R.bind (compL (s__law_behind_c1 C (fz ρ 5)) ds33 [] S34) fun ys S5 => .ok (.lst ys) S5 else .bad)) fun d35 S36 =>
 (tstD d35 S36)) (fz ρ 5) fun t37 S38 =>
 (if t37 then (O.seq (appS (getSl (fz (fz ρ 5) 5) 4) fun ds => (R.run (rdE (getSl (fz (fz ρ 5) 5) 5) S38) (fz (fz ρ 5) 5) fun d39 S40 =>
 (if ds.length < LINE then .nx ((fz (fz ρ 5) 5).set 4 (.own (ds ++ [d39]))) S40 else .bad))) fun ρ41 S42 =>
(.nx ρ41 S42)) else (.nx (fz ρ 5) S38))) fun ρ43 S44 =>
(.nx ρ43 S44))
def s__law_behind_l1 (C : Call) (d : D) (ρ : Ev) (S : Sto) : O := asg1 (asgG 50 (.nm 5) d ρ) S (s__law_behind_l1_b C)
def s__law_behind_b (C : Call) (ρ : Ev) (S : Sto) : O :=
(O.seq (if decide (4 < ρ.length) then (.nx (ρ.set 4 (.own [])) S) else .bad) fun ρ1 S2 =>
(O.seq (R.run (R.bind (R.bind (R.bind (R.bind (rdT (getSl ρ1 0) S2) fun d45 S46 =>
 (.ok [d45] S46)) fun ds47 S48 =>
 (R.opt (callD "len" (ds47.map (view S48))) S48)) fun d49 S50 =>
 (.ok [d49] S50)) fun ds51 S52 =>
 (rangeA1 ds51 S52)) ρ1 fun ds53 S54 =>
 (forL (s__law_behind_l1 C) ds53 ρ1 S54)) fun ρ55 S56 =>
(O.seq (R.run (R.bind (R.bind (rdT (getSl ρ55 4) S56) fun d57 S58 =>
 (.ok [d57] S58)) fun ds59 S60 =>
 (R.opt (callD "tuple" (ds59.map (view S60))) S60)) ρ55 fun d61 S62 =>
 (.ret d61 S62)) fun ρ63 S64 =>
(.nx ρ63 S64))))
def s__law_behind (C : Call) (a0 a1 a2 a3 : D) (S : Sto) : R D := O.fin (s__law_behind_b C [.val a0, .val a1, .val a2, .val a3, .un, .un, .un, .un, .un] S)
def s__law_empty_c1_t (C : Call) (ρ : Ev) (S : Sto) : R Bool :=
 (R.bind (R.bind (R.bind (rdT (getSl ρ 0) S) fun d1 S2 =>
 (R.bind (rdE (getSl ρ 1) S2) fun d3 S4 =>
 (R.opt (itemD (view S4 d1) d3) S4))) fun d5 S6 =>
 (R.opt (itemD (view S6 d5) (.int 0)) S6)) fun d7 S8 =>
 (tstD d7 S8))
def s__law_empty_c1_e (C : Call) (ρ : Ev) (S : Sto) : R D :=
 (rdE (getSl ρ 1) S)
def s__law_empty_c1 (C : Call) (ρ : Ev) (d : D) (S : Sto) : R (Option D) := lcStep (s__law_empty_c1_t C) (s__law_empty_c1_e C) S (asgG 50 (.nm 1) d (wipeE ρ [1]))
def s__law_empty_b (C : Call) (ρ : Ev) (S : Sto) : O :=
(O.seq (R.run (R.bind (R.bind (R.bind (R.bind (R.bind (R.bind (R.bind (rdT (getSl (fz (fz ρ 1) 1) 0) S) fun d9 S10 =>
 (.ok [d9] S10)) fun ds11 S12 =>
 (R.opt (callD "len" (ds11.map (view S12))) S12)) fun d13 S14 =>
 (.ok [d13] S14)) fun ds15 S16 =>
 (rangeA1 ds15 S16)) fun ds17 S18 =>
 (if (ds17).length ≤ LINE then R.bind (compL (s__law_empty_c1 C (fz (fz ρ 1) 1)) ds17 [] S18) fun ys S5 => .ok (.lst ys) S5 else .bad)) fun d19 S20 =>
 (.ok [d19] S20)) fun ds21 S22 =>
 (R.opt (callD "tuple" (ds21.map (view S22))) S22)) (fz (fz ρ 1) 1) fun d23 S24 =>
 (.ret d23 S24)) fun ρ25 S26 =>
(.nx ρ25 S26))
def s__law_empty (C : Call) (a0 : D) (S : Sto) : R D := O.fin (s__law_empty_b C [.val a0, .un] S)
def s__law_set_l1_b (C : Call) (ρ : Ev) (S : Sto) : O :=
 (O.seq (R.run (R.bind (rdT (getSl ρ 1) S) fun d9 S10 =>
 (R.bind (R.bind (R.bind (R.bind (R.bind (rdT (getSl ρ 1) S10) fun d11 S12 =>
 (.ok [d11] S12)) fun ds13 S14 =>
 (R.opt (callD "len" (ds13.map (view S14))) S14)) fun d15 S16 =>
 (R.opt (binD .Sub (view S16 d15) (.int 1)) S16)) fun d17 S18 =>
 (R.bind (rdT (getSl ρ 3) S18) fun d19 S20 =>
 (R.opt (binD .Sub (view S20 d17) (view S20 d19)) S20))) fun d21 S22 =>
 (R.opt (itemD (view S22 d9) d21) S22))) ρ fun d23 S24 =>
 (asg1 (asgG 50 (.tp [(.nm 4), (.nm 5)]) d23 ρ) S24 fun ρ S => .nx ρ S)) fun ρ25 S26 =>
(O.seq (if decide (2 < (fz (fz (fz (fz (fz ρ25 0) 4) 0) 5) 2).length) then (R.run (R.bind (R.bind (rdE (getSl (fz (fz (fz (fz (fz ρ25 0) 4) 0) 5) 2) 0) S26) fun d27 S28 =>
 (R.bind (R.bind (rdE (getSl (fz (fz (fz (fz (fz ρ25 0) 4) 0) 5) 2) 4) S28) fun d29 S30 =>
 (R.bind (R.bind (R.bind (R.bind (rdE (getSl (fz (fz (fz (fz (fz ρ25 0) 4) 0) 5) 2) 0) S30) fun d31 S32 =>
 (R.bind (R.bind (rdE (getSl (fz (fz (fz (fz (fz ρ25 0) 4) 0) 5) 2) 5) S32) fun d33 S34 =>
 (.ok [d33] S34)) fun ds35 S36 =>
 (.ok (d31 :: ds35) S36))) fun ds37 S38 =>
 (C "_law_set" ds37 S38)) fun d39 S40 =>
 (R.bind (R.bind (rdE (getSl (fz (fz (fz (fz (fz ρ25 0) 4) 0) 5) 2) 2) S40) fun d41 S42 =>
 (.ok [d41] S42)) fun ds43 S44 =>
 (.ok (d39 :: ds43) S44))) fun ds45 S46 =>
 (.ok (d29 :: ds45) S46))) fun ds47 S48 =>
 (.ok (d27 :: ds47) S48))) fun ds49 S50 =>
 (C "_law_behind" ds49 S50)) (fz (fz (fz (fz (fz ρ25 0) 4) 0) 5) 2) fun d51 S52 =>
 (.nx ((fz (fz (fz (fz (fz ρ25 0) 4) 0) 5) 2).set 2 (.val d51)) S52)) else .bad) fun ρ53 S54 =>
(.nx ρ53 S54)))
def s__law_set_l1 (C : Call) (d : D) (ρ : Ev) (S : Sto) : O := asg1 (asgG 50 (.nm 3) d ρ) S (s__law_set_l1_b C)
def s__law_set_b (C : Call) (ρ : Ev) (S : Sto) : O :=
(O.seq (if decide (2 < (fz ρ 0).length) then (R.run (R.bind (R.bind (rdE (getSl (fz ρ 0) 0) S) fun d1 S2 =>
 (.ok [d1] S2)) fun ds3 S4 =>
 (C "_law_empty" ds3 S4)) (fz ρ 0) fun d5 S6 =>
 (.nx ((fz ρ 0).set 2 (.val d5)) S6)) else .bad) fun ρ7 S8 =>
(O.seq (R.run (R.bind (R.bind (R.bind (R.bind (rdT (getSl ρ7 1) S8) fun d55 S56 =>
 (.ok [d55] S56)) fun ds57 S58 =>
 (R.opt (callD "len" (ds57.map (view S58))) S58)) fun d59 S60 =>
 (.ok [d59] S60)) fun ds61 S62 =>
 (rangeA1 ds61 S62)) ρ7 fun ds63 S64 =>
 (forL (s__law_set_l1 C) ds63 ρ7 S64)) fun ρ65 S66 =>
(O.seq (R.run (rdE (getSl (fz ρ65 2) 2) S66) (fz ρ65 2) fun d67 S68 =>
 (.ret d67 S68)) fun ρ69 S70 =>
(.nx ρ69 S70))))
def s__law_set (C : Call) (a0 a1 : D) (S : Sto) : R D := O.fin (s__law_set_b C [.val a0, .val a1, .un, .un, .un, .un] S)
def s__law_near_b (C : Call) (ρ : Ev) (S : Sto) : O :=
(O.seq (R.run (R.bind (R.bind (R.bind (rdT (getSl (fz ρ 0) 1) S) fun d1 S2 =>
 (tstD d1 S2)) fun t3 S4 =>
 (.ok (!t3) S4)) fun t5 S6 =>
 (if t5 then .ok true S6 else (R.bind (R.bind (R.bind (R.bind (rdE (getSl (fz ρ 0) 0) S6) fun d7 S8 =>
 (.ok [d7, (.int 3)] S8)) fun ds9 S10 =>
 (C "_law_take" ds9 S10)) fun d11 S12 =>
 (R.opt ((cmpD .Eq (view S12 d11) (.int 0)).map D.bl) S12)) fun d13 S14 =>
 (blD d13 S14)))) (fz ρ 0) fun t15 S16 =>
 (if t15 then (O.seq (R.run (R.bind (rdT (getSl (fz (fz ρ 0) 0) 1) S16) fun d17 S18 =>
 (R.bind (R.bind (R.bind (R.bind (R.bind (R.bind (R.bind (rdE (getSl (fz (fz ρ 0) 0) 0) S18) fun d19 S20 =>
 (.ok [d19, (.int 5)] S20)) fun ds21 S22 =>
 (C "_law_take" ds21 S22)) fun d23 S24 =>
 (.ok [d23, (.tup [])] S24)) fun ds25 S26 =>
 (if (ds25).length ≤ LINE then .ok (.tup ds25) S26 else .bad)) fun d27 S28 =>
 (.ok [d27] S28)) fun ds29 S30 =>
 (if (ds29).length ≤ LINE then .ok (.tup ds29) S30 else .bad)) fun d31 S32 =>
 (R.opt (binD .Add (view S32 d17) (view S32 d31)) S32))) (fz (fz ρ 0) 0) fun d33 S34 =>
 (.ret d33 S34)) fun ρ35 S36 =>
(.nx ρ35 S36)) else (.nx (fz ρ 0) S16))) fun ρ37 S38 =>
(O.seq (if decide (2 < (fz ρ37 0).length) then (R.run (R.bind (R.bind (rdE (getSl (fz ρ37 0) 0) S38) fun d39 S40 =>
 (R.bind (R.bind (R.bind (R.bind (rdT (getSl (fz ρ37 0) 1) S40) fun d41 S42 =>
 (.ok [d41] S42)) fun ds43 S44 =>
 (R.opt (callD "len" (ds43.map (view S44))) S44)) fun d45 S46 =>
 (.ok [d45] S46)) fun ds47 S48 =>
 (.ok (d39 :: ds47) S48))) fun ds49 S50 =>
 (C "_law_take" ds49 S50)) (fz ρ37 0) fun d51 S52 =>
 (.nx ((fz ρ37 0).set 2 (.val d51)) S52)) else .bad) fun ρ53 S54 =>
(O.seq (if decide (3 < (fz ρ53 0).length) then (R.run (R.bind (R.bind (rdE (getSl (fz ρ53 0) 0) S54) fun d55 S56 =>
 (.ok [d55, (.int 3)] S56)) fun ds57 S58 =>
 (C "_law_take" ds57 S58)) (fz ρ53 0) fun d59 S60 =>
 (.nx ((fz ρ53 0).set 3 (.val d59)) S60)) else .bad) fun ρ61 S62 =>
(O.seq (R.run (R.bind (R.bind (rdT (getSl ρ61 3) S62) fun d63 S64 =>
 (R.opt ((cmpD .Eq (view S64 d63) (.int 0)).map D.bl) S64)) fun d65 S66 =>
 (blD d65 S66)) ρ61 fun t67 S68 =>
 (if t67 then (O.seq (R.run (R.bind (R.bind (rdT (getSl ρ61 1) S68) fun d69 S70 =>
 (R.bind (R.bind (rdE (getSl ρ61 2) S70) fun d71 S72 =>
 (ixD d71 S72)) fun o73 S74 =>
 (R.opt (sliceD (view S74 d69) none o73) S74))) fun d75 S76 =>
 (R.bind (R.bind (rdT (getSl ρ61 1) S76) fun d77 S78 =>
 (R.bind (R.bind (R.bind (rdT (getSl ρ61 2) S78) fun d79 S80 =>
 (R.opt (binD .Add (view S80 d79) (.int 1)) S80)) fun d81 S82 =>
 (ixD d81 S82)) fun o83 S84 =>
 (R.opt (sliceD (view S84 d77) o83 none) S84))) fun d85 S86 =>
 (R.opt (binD .Add (view S86 d75) (view S86 d85)) S86))) ρ61 fun d87 S88 =>
 (.ret d87 S88)) fun ρ89 S90 =>
(.nx ρ89 S90)) else (.nx ρ61 S68))) fun ρ91 S92 =>
(O.seq (R.run (R.bind (R.bind (rdT (getSl ρ91 3) S92) fun d93 S94 =>
 (R.opt ((cmpD .Eq (view S94 d93) (.int 1)).map D.bl) S94)) fun d95 S96 =>
 (blD d95 S96)) ρ91 fun t97 S98 =>
 (if t97 then (O.seq (R.run (R.bind (R.bind (R.bind (rdT (getSl (fz (fz ρ91 0) 2) 1) S98) fun d99 S100 =>
 (R.bind (R.bind (rdE (getSl (fz (fz ρ91 0) 2) 2) S100) fun d101 S102 =>
 (ixD d101 S102)) fun o103 S104 =>
 (R.opt (sliceD (view S104 d99) none o103) S104))) fun d105 S106 =>
 (R.bind (R.bind (R.bind (R.bind (R.bind (R.bind (R.bind (rdE (getSl (fz (fz ρ91 0) 2) 0) S106) fun d107 S108 =>
 (.ok [d107, (.int 5)] S108)) fun ds109 S110 =>
 (C "_law_take" ds109 S110)) fun d111 S112 =>
 (R.bind (R.bind (R.bind (R.bind (rdT (getSl (fz (fz ρ91 0) 2) 1) S112) fun d113 S114 =>
 (R.bind (rdE (getSl (fz (fz ρ91 0) 2) 2) S114) fun d115 S116 =>
 (R.opt (itemD (view S116 d113) d115) S116))) fun d117 S118 =>
 (R.opt (itemD (view S118 d117) (.int 1)) S118)) fun d119 S120 =>
 (.ok [d119] S120)) fun ds121 S122 =>
 (.ok (d111 :: ds121) S122))) fun ds123 S124 =>
 (if (ds123).length ≤ LINE then .ok (.tup ds123) S124 else .bad)) fun d125 S126 =>
 (.ok [d125] S126)) fun ds127 S128 =>
 (if (ds127).length ≤ LINE then .ok (.tup ds127) S128 else .bad)) fun d129 S130 =>
 (R.opt (binD .Add (view S130 d105) (view S130 d129)) S130))) fun d131 S132 =>
 (R.bind (R.bind (rdT (getSl (fz (fz ρ91 0) 2) 1) S132) fun d133 S134 =>
 (R.bind (R.bind (R.bind (rdT (getSl (fz (fz ρ91 0) 2) 2) S134) fun d135 S136 =>
 (R.opt (binD .Add (view S136 d135) (.int 1)) S136)) fun d137 S138 =>
 (ixD d137 S138)) fun o139 S140 =>
 (R.opt (sliceD (view S140 d133) o139 none) S140))) fun d141 S142 =>
 (R.opt (binD .Add (view S142 d131) (view S142 d141)) S142))) (fz (fz ρ91 0) 2) fun d143 S144 =>
 (.ret d143 S144)) fun ρ145 S146 =>
(.nx ρ145 S146)) else (.nx ρ91 S98))) fun ρ147 S148 =>
(O.seq (R.run (R.bind (R.bind (R.bind (rdT (getSl (fz (fz (fz ρ147 2) 0) 2) 1) S148) fun d149 S150 =>
 (R.bind (R.bind (rdE (getSl (fz (fz (fz ρ147 2) 0) 2) 2) S150) fun d151 S152 =>
 (ixD d151 S152)) fun o153 S154 =>
 (R.opt (sliceD (view S154 d149) none o153) S154))) fun d155 S156 =>
 (R.bind (R.bind (R.bind (R.bind (R.bind (R.bind (R.bind (rdT (getSl (fz (fz (fz ρ147 2) 0) 2) 1) S156) fun d157 S158 =>
 (R.bind (rdE (getSl (fz (fz (fz ρ147 2) 0) 2) 2) S158) fun d159 S160 =>
 (R.opt (itemD (view S160 d157) d159) S160))) fun d161 S162 =>
 (R.opt (itemD (view S162 d161) (.int 0)) S162)) fun d163 S164 =>
 (R.bind (R.bind (R.bind (R.bind (rdE (getSl (fz (fz (fz ρ147 2) 0) 2) 0) S164) fun d165 S166 =>
 (R.bind (R.bind (R.bind (R.bind (rdT (getSl (fz (fz (fz ρ147 2) 0) 2) 1) S166) fun d167 S168 =>
 (R.bind (rdE (getSl (fz (fz (fz ρ147 2) 0) 2) 2) S168) fun d169 S170 =>
 (R.opt (itemD (view S170 d167) d169) S170))) fun d171 S172 =>
 (R.opt (itemD (view S172 d171) (.int 1)) S172)) fun d173 S174 =>
 (.ok [d173] S174)) fun ds175 S176 =>
 (.ok (d165 :: ds175) S176))) fun ds177 S178 =>
 (C "_law_near" ds177 S178)) fun d179 S180 =>
 (.ok [d179] S180)) fun ds181 S182 =>
 (.ok (d163 :: ds181) S182))) fun ds183 S184 =>
 (if (ds183).length ≤ LINE then .ok (.tup ds183) S184 else .bad)) fun d185 S186 =>
 (.ok [d185] S186)) fun ds187 S188 =>
 (if (ds187).length ≤ LINE then .ok (.tup ds187) S188 else .bad)) fun d189 S190 =>
 (R.opt (binD .Add (view S190 d155) (view S190 d189)) S190))) fun d191 S192 =>
 (R.bind (R.bind (rdT (getSl (fz (fz (fz ρ147 2) 0) 2) 1) S192) fun d193 S194 =>
 (R.bind (R.bind (R.bind (rdT (getSl (fz (fz (fz ρ147 2) 0) 2) 2) S194) fun d195 S196 =>
 (R.opt (binD .Add (view S196 d195) (.int 1)) S196)) fun d197 S198 =>
 (ixD d197 S198)) fun o199 S200 =>
 (R.opt (sliceD (view S200 d193) o199 none) S200))) fun d201 S202 =>
 (R.opt (binD .Add (view S202 d191) (view S202 d201)) S202))) (fz (fz (fz ρ147 2) 0) 2) fun d203 S204 =>
 (.ret d203 S204)) fun ρ205 S206 =>
(.nx ρ205 S206)))))))
def s__law_near (C : Call) (a0 a1 : D) (S : Sto) : R D := O.fin (s__law_near_b C [.val a0, .val a1, .un, .un] S)
def s__law_is_number_b (C : Call) (ρ : Ev) (S : Sto) : O :=
(O.seq (R.run (R.bind (R.bind (rdT (getSl ρ 0) S) fun d2 S3 =>
 (R.opt ((isiD "int" (view S3 d2)).map D.bl) S3)) fun d4 S5 =>
 (andD d4 S5 fun S1 =>
 (R.bind (R.bind (rdT (getSl ρ 0) S1) fun d6 S7 =>
 (R.opt ((isiD "bool" (view S7 d6)).map D.bl) S7)) fun d8 S9 =>
 (R.opt ((truD (view S9 d8)).map fun b => D.bl (!b)) S9)))) ρ fun d10 S11 =>
 (.ret d10 S11)) fun ρ12 S13 =>
(.nx ρ12 S13))
def s__law_is_number (C : Call) (a0 : D) (S : Sto) : R D := O.fin (s__law_is_number_b C [.val a0] S)
def s_law_l1_b (C : Call) (ρ : Ev) (S : Sto) : O :=
 (O.seq (R.run (R.bind (R.bind (R.bind (R.bind (R.bind (R.bind (R.bind (rdE (getSl (fz (fz (fz (fz (fz ρ 4) 4) 4) 4) 4) 4) S) fun d49 S50 =>
 (.ok [d49] S50)) fun ds51 S52 =>
 (C "size" ds51 S52)) fun d53 S54 =>
 (.ok [d53] S54)) fun ds55 S56 =>
 (C "_law_is_number" ds55 S56)) fun d57 S58 =>
 (tstD d57 S58)) fun t59 S60 =>
 (.ok (!t59) S60)) fun t61 S62 =>
 (if t61 then .ok true S62 else (R.bind (R.bind (R.bind (R.bind (R.bind (rdE (getSl (fz (fz (fz (fz (fz ρ 4) 4) 4) 4) 4) 4) S62) fun d63 S64 =>
 (.ok [d63] S64)) fun ds65 S66 =>
 (C "size" ds65 S66)) fun d67 S68 =>
 (R.bind (R.bind (R.bind (rdE (getSl (fz (fz (fz (fz (fz ρ 4) 4) 4) 4) 4) 4) S68) fun d69 S70 =>
 (.ok [d69] S70)) fun ds71 S72 =>
 (C "_law_size" ds71 S72)) fun d73 S74 =>
 (R.opt ((cmpD .NotEq (view S74 d67) (view S74 d73)).map D.bl) S74))) fun d75 S76 =>
 (blD d75 S76)) fun t77 S78 =>
 (if t77 then .ok true S78 else (R.bind (R.bind (R.bind (R.bind (rdE (getSl (fz (fz (fz (fz (fz ρ 4) 4) 4) 4) 4) 4) S78) fun d79 S80 =>
 (R.bind (R.bind (rdE (getSl (fz (fz (fz (fz (fz ρ 4) 4) 4) 4) 4) 4) S80) fun d81 S82 =>
 (.ok [d81] S82)) fun ds83 S84 =>
 (.ok (d79 :: ds83) S84))) fun ds85 S86 =>
 (C "before" ds85 S86)) fun d87 S88 =>
 (R.opt ((cmpD .NotEq (view S88 d87) (.int 0)).map D.bl) S88)) fun d89 S90 =>
 (blD d89 S90)))))) (fz (fz (fz (fz (fz ρ 4) 4) 4) 4) 4) fun t91 S92 =>
 (if t91 then (O.seq (.ret (.bl false) S92) fun ρ93 S94 =>
(.nx ρ93 S94)) else (.nx (fz (fz (fz (fz (fz ρ 4) 4) 4) 4) 4) S92))) fun ρ95 S96 =>
(.nx ρ95 S96))
def s_law_l1 (C : Call) (d : D) (ρ : Ev) (S : Sto) : O := asg1 (asgG 50 (.nm 4) d ρ) S (s_law_l1_b C)
def s_law_b (C : Call) (ρ : Ev) (S : Sto) : O :=
(O.seq (if decide (1 < (fz ρ 0).length) then (R.run (R.bind (R.bind (rdE (getSl (fz ρ 0) 0) S) fun d1 S2 =>
 (.ok [d1] S2)) fun ds3 S4 =>
 (C "_law_box" ds3 S4)) (fz ρ 0) fun d5 S6 =>
 (.nx ((fz ρ 0).set 1 (.val d5)) S6)) else .bad) fun ρ7 S8 =>
(O.seq (if decide (2 < (fz ρ7 1).length) then (R.run (R.bind (R.bind (rdE (getSl (fz ρ7 1) 1) S8) fun d9 S10 =>
 (.ok [d9, (.lst [(.int 0), (.int 1), (.int 2), (.int 3), (.int 4)]), (.int 8), (.int 4)] S10)) fun ds11 S12 =>
 (C "_law_document" ds11 S12)) (fz ρ7 1) fun d13 S14 =>
 (.nx ((fz ρ7 1).set 2 (.val d13)) S14)) else .bad) fun ρ15 S16 =>
(O.seq (if decide (3 < (fz ρ15 1).length) then (R.run (R.bind (R.bind (rdE (getSl (fz ρ15 1) 1) S16) fun d17 S18 =>
 (.ok [d17, (.lst [(.int 0), (.int 1), (.int 2), (.int 3), (.int 4)]), (.int 8), (.int 4)] S18)) fun ds19 S20 =>
 (C "_law_document" ds19 S20)) (fz ρ15 1) fun d21 S22 =>
 (.nx ((fz ρ15 1).set 3 (.val d21)) S22)) else .bad) fun ρ23 S24 =>
(O.seq (R.run (R.bind (R.bind (R.bind (R.bind (rdE (getSl (fz ρ23 1) 1) S24) fun d25 S26 =>
 (.ok [d25, (.int 2)] S26)) fun ds27 S28 =>
 (C "_law_take" ds27 S28)) fun d29 S30 =>
 (R.opt ((cmpD .Eq (view S30 d29) (.int 0)).map D.bl) S30)) fun d31 S32 =>
 (blD d31 S32)) (fz ρ23 1) fun t33 S34 =>
 (if t33 then (O.seq (if decide (3 < (fz (fz (fz ρ23 1) 1) 2).length) then (R.run (R.bind (R.bind (rdE (getSl (fz (fz (fz ρ23 1) 1) 2) 1) S34) fun d35 S36 =>
 (R.bind (R.bind (rdE (getSl (fz (fz (fz ρ23 1) 1) 2) 2) S36) fun d37 S38 =>
 (.ok [d37] S38)) fun ds39 S40 =>
 (.ok (d35 :: ds39) S40))) fun ds41 S42 =>
 (C "_law_near" ds41 S42)) (fz (fz (fz ρ23 1) 1) 2) fun d43 S44 =>
 (.nx ((fz (fz (fz ρ23 1) 1) 2).set 3 (.val d43)) S44)) else .bad) fun ρ45 S46 =>
(.nx ρ45 S46)) else (.nx (fz ρ23 1) S34))) fun ρ47 S48 =>
(O.seq (R.run (R.bind (R.bind (R.bind (rdE (getSl (fz (fz ρ47 2) 3) 2) S48) fun d97 S98 =>
 (R.bind (R.bind (rdE (getSl (fz (fz ρ47 2) 3) 3) S98) fun d99 S100 =>
 (.ok [d99] S100)) fun ds101 S102 =>
 (.ok (d97 :: ds101) S102))) fun ds103 S104 =>
 (if (ds103).length ≤ LINE then .ok (.tup ds103) S104 else .bad)) fun d105 S106 =>
 (R.opt (itemsD d105) S106)) (fz (fz ρ47 2) 3) fun ds107 S108 =>
 (forL (s_law_l1 C) ds107 (fz (fz ρ47 2) 3) S108)) fun ρ109 S110 =>
(O.seq (if decide (5 < (fz (fz ρ109 2) 3).length) then (R.run (R.bind (R.bind (rdE (getSl (fz (fz ρ109 2) 3) 2) S110) fun d111 S112 =>
 (R.bind (R.bind (rdE (getSl (fz (fz ρ109 2) 3) 3) S112) fun d113 S114 =>
 (.ok [d113] S114)) fun ds115 S116 =>
 (.ok (d111 :: ds115) S116))) fun ds117 S118 =>
 (C "_law_order" ds117 S118)) (fz (fz ρ109 2) 3) fun d119 S120 =>
 (.nx ((fz (fz ρ109 2) 3).set 5 (.val d119)) S120)) else .bad) fun ρ121 S122 =>
(O.seq (if decide (6 < (fz (fz ρ121 2) 3).length) then (R.run (R.bind (R.bind (rdE (getSl (fz (fz ρ121 2) 3) 2) S122) fun d123 S124 =>
 (R.bind (R.bind (rdE (getSl (fz (fz ρ121 2) 3) 3) S124) fun d125 S126 =>
 (.ok [d125] S126)) fun ds127 S128 =>
 (.ok (d123 :: ds127) S128))) fun ds129 S130 =>
 (C "before" ds129 S130)) (fz (fz ρ121 2) 3) fun d131 S132 =>
 (.nx ((fz (fz ρ121 2) 3).set 6 (.val d131)) S132)) else .bad) fun ρ133 S134 =>
(O.seq (R.run (R.bind (R.bind (R.bind (R.bind (R.bind (rdE (getSl (fz (fz (fz ρ133 6) 3) 2) 6) S134) fun d135 S136 =>
 (.ok [d135] S136)) fun ds137 S138 =>
 (C "_law_is_number" ds137 S138)) fun d139 S140 =>
 (tstD d139 S140)) fun t141 S142 =>
 (.ok (!t141) S142)) fun t143 S144 =>
 (if t143 then .ok true S144 else (R.bind (R.bind (R.bind (rdT (getSl (fz (fz (fz ρ133 6) 3) 2) 6) S144) fun d145 S146 =>
 (R.bind (rdT (getSl (fz (fz (fz ρ133 6) 3) 2) 5) S146) fun d147 S148 =>
 (R.opt ((cmpD .NotEq (view S148 d145) (view S148 d147)).map D.bl) S148))) fun d149 S150 =>
 (blD d149 S150)) fun t151 S152 =>
 (if t151 then .ok true S152 else (R.bind (R.bind (R.bind (R.bind (R.bind (rdE (getSl (fz (fz (fz ρ133 6) 3) 2) 3) S152) fun d153 S154 =>
 (R.bind (R.bind (rdE (getSl (fz (fz (fz ρ133 6) 3) 2) 2) S154) fun d155 S156 =>
 (.ok [d155] S156)) fun ds157 S158 =>
 (.ok (d153 :: ds157) S158))) fun ds159 S160 =>
 (C "before" ds159 S160)) fun d161 S162 =>
 (R.bind (R.bind (rdT (getSl (fz (fz (fz ρ133 6) 3) 2) 5) S162) fun d163 S164 =>
 (negD d163 S164)) fun d165 S166 =>
 (R.opt ((cmpD .NotEq (view S166 d161) (view S166 d165)).map D.bl) S166))) fun d167 S168 =>
 (blD d167 S168)) fun t169 S170 =>
 (if t169 then .ok true S170 else (R.bind (R.bind (R.bind (rdT (getSl (fz (fz (fz ρ133 6) 3) 2) 5) S170) fun d171 S172 =>
 (R.opt ((cmpD .Eq (view S172 d171) (.int 0)).map D.bl) S172)) fun d173 S174 =>
 (R.bind (R.bind (rdT (getSl (fz (fz (fz ρ133 6) 3) 2) 2) S174) fun d175 S176 =>
 (R.bind (rdT (getSl (fz (fz (fz ρ133 6) 3) 2) 3) S176) fun d177 S178 =>
 (R.opt ((cmpD .Eq (view S178 d175) (view S178 d177)).map D.bl) S178))) fun d179 S180 =>
 (R.opt ((cmpD .NotEq (view S180 d173) (view S180 d179)).map D.bl) S180))) fun d181 S182 =>
 (blD d181 S182)))))))) (fz (fz (fz ρ133 6) 3) 2) fun t183 S184 =>
 (if t183 then (O.seq (.ret (.bl false) S184) fun ρ185 S186 =>
(.nx ρ185 S186)) else (.nx (fz (fz (fz ρ133 6) 3) 2) S184))) fun ρ187 S188 =>
(O.seq (if decide (7 < ρ187.length) then (R.run (C "_law_all" [(.lst [(.int 1), (.int 3)]), (.int 3)] S188) ρ187 fun d189 S190 =>
 (.nx (ρ187.set 7 (.val d189)) S190)) else .bad) fun ρ191 S192 =>
(O.seq (if decide (4 < (fz (fz ρ191 1) 1).length) && decide (8 < (fz (fz ρ191 1) 1).length) && true && true then (R.run (R.bind (R.bind (R.bind (rdE (getSl (fz (fz ρ191 1) 1) 1) S192) fun d193 S194 =>
 (R.bind (R.bind (R.bind (R.bind (rdT (getSl (fz (fz ρ191 1) 1) 7) S194) fun d195 S196 =>
 (.ok [d195] S196)) fun ds197 S198 =>
 (R.opt (callD "len" (ds197.map (view S198))) S198)) fun d199 S200 =>
 (.ok [d199] S200)) fun ds201 S202 =>
 (.ok (d193 :: ds201) S202))) fun ds203 S204 =>
 (C "_law_take" ds203 S204)) fun d205 S206 =>
 (R.bind (R.bind (R.bind (R.bind (rdE (getSl (fz (fz ρ191 1) 1) 1) S206) fun d207 S208 =>
 (R.bind (R.bind (R.bind (R.bind (rdT (getSl (fz (fz ρ191 1) 1) 7) S208) fun d209 S210 =>
 (.ok [d209] S210)) fun ds211 S212 =>
 (R.opt (callD "len" (ds211.map (view S212))) S212)) fun d213 S214 =>
 (.ok [d213] S214)) fun ds215 S216 =>
 (.ok (d207 :: ds215) S216))) fun ds217 S218 =>
 (C "_law_take" ds217 S218)) fun d219 S220 =>
 (.ok [d219] S220)) fun ds221 S222 =>
 (.ok (d205 :: ds221) S222))) (fz (fz ρ191 1) 1) fun ds223 S224 =>
 (twoD ds223 fun a b => .nx (((fz (fz ρ191 1) 1).set 4 (.val a)).set 8 (.val b)) S224)) else .bad) fun ρ225 S226 =>
(O.seq (if decide (5 < ρ225.length) then (R.run (R.bind (R.bind (R.bind (rdT (getSl ρ225 4) S226) fun d227 S228 =>
 (R.bind (rdT (getSl ρ225 8) S228) fun d229 S230 =>
 (R.opt ((cmpD .Eq (view S230 d227) (view S230 d229)).map D.bl) S230))) fun d231 S232 =>
 (blD d231 S232)) fun t233 S234 =>
 (if t233 then (.ok (.int 0) S234) else (R.bind (R.bind (R.bind (rdT (getSl ρ225 4) S234) fun d235 S236 =>
 (R.bind (rdT (getSl ρ225 8) S236) fun d237 S238 =>
 (R.opt ((cmpD .Lt (view S238 d235) (view S238 d237)).map D.bl) S238))) fun d239 S240 =>
 (blD d239 S240)) fun t241 S242 =>
 (if t241 then (.ok (.int (-1)) S242) else (.ok (.int 1) S242))))) ρ225 fun d243 S244 =>
 (.nx (ρ225.set 5 (.val d243)) S244)) else .bad) fun ρ245 S246 =>
(O.seq (R.run (R.bind (R.bind (R.bind (R.bind (rdT (getSl (fz (fz ρ245 4) 8) 7) S246) fun d247 S248 =>
 (R.bind (rdE (getSl (fz (fz ρ245 4) 8) 4) S248) fun d249 S250 =>
 (R.opt (itemD (view S250 d247) d249) S250))) fun d251 S252 =>
 (R.bind (R.bind (R.bind (rdT (getSl (fz (fz ρ245 4) 8) 7) S252) fun d253 S254 =>
 (R.bind (rdE (getSl (fz (fz ρ245 4) 8) 8) S254) fun d255 S256 =>
 (R.opt (itemD (view S256 d253) d255) S256))) fun d257 S258 =>
 (.ok [d257] S258)) fun ds259 S260 =>
 (.ok (d251 :: ds259) S260))) fun ds261 S262 =>
 (C "before" ds261 S262)) fun d263 S264 =>
 (R.bind (rdT (getSl (fz (fz ρ245 4) 8) 5) S264) fun d265 S266 =>
 (R.opt ((cmpD .Eq (view S266 d263) (view S266 d265)).map D.bl) S266))) (fz (fz ρ245 4) 8) fun d267 S268 =>
 (.ret d267 S268)) fun ρ269 S270 =>
(.nx ρ269 S270)))))))))))))
def s_law (C : Call) (a0 : D) (S : Sto) : R D := O.fin (s_law_b C [.val a0, .un, .un, .un, .un, .un, .un, .un, .un] S)
theorem e_is_whole (C : Call) (a0 : D) (S : Sto) : runFd md.g C d_is_whole.fd [a0] S = s_is_whole C a0 S := by kernel_rfl
theorem c_is_whole (k : Nat) (a0 : D) (S : Sto) : callN md.g (k + 1) "is_whole" [a0] S = s_is_whole (callN md.g k) a0 S := (show callN md.g (k + 1) "is_whole" [a0] S = runFd md.g (callN md.g k) d_is_whole.fd [a0] S by kernel_rfl).trans (e_is_whole _ a0 S)
theorem e_is_within (C : Call) (a0 a1 a2 : D) (S : Sto) : runFd md.g C d_is_within.fd [a0, a1, a2] S = s_is_within C a0 a1 a2 S := by kernel_rfl
theorem c_is_within (k : Nat) (a0 a1 a2 : D) (S : Sto) : callN md.g (k + 1) "is_within" [a0, a1, a2] S = s_is_within (callN md.g k) a0 a1 a2 S := (show callN md.g (k + 1) "is_within" [a0, a1, a2] S = runFd md.g (callN md.g k) d_is_within.fd [a0, a1, a2] S by kernel_rfl).trans (e_is_within _ a0 a1 a2 S)
theorem e_measure (C : Call) (a0 a1 : D) (S : Sto) : runFd md.g C d_measure.fd [a0, a1] S = s_measure C a0 a1 S := by kernel_rfl
theorem c_measure (k : Nat) (a0 a1 : D) (S : Sto) : callN md.g (k + 1) "measure" [a0, a1] S = s_measure (callN md.g k) a0 a1 S := (show callN md.g (k + 1) "measure" [a0, a1] S = runFd md.g (callN md.g k) d_measure.fd [a0, a1] S by kernel_rfl).trans (e_measure _ a0 a1 S)
theorem e_check_document (C : Call) (a0 : D) (S : Sto) : runFd md.g C d_check_document.fd [a0] S = s_check_document C a0 S := by kernel_rfl
theorem c_check_document (k : Nat) (a0 : D) (S : Sto) : callN md.g (k + 1) "check_document" [a0] S = s_check_document (callN md.g k) a0 S := (show callN md.g (k + 1) "check_document" [a0] S = runFd md.g (callN md.g k) d_check_document.fd [a0] S by kernel_rfl).trans (e_check_document _ a0 S)
theorem e_trees_in (C : Call) (a0 : D) (S : Sto) : runFd md.g C d_trees_in.fd [a0] S = s_trees_in C a0 S := by kernel_rfl
theorem c_trees_in (k : Nat) (a0 : D) (S : Sto) : callN md.g (k + 1) "trees_in" [a0] S = s_trees_in (callN md.g k) a0 S := (show callN md.g (k + 1) "trees_in" [a0] S = runFd md.g (callN md.g k) d_trees_in.fd [a0] S by kernel_rfl).trans (e_trees_in _ a0 S)
theorem e_size (C : Call) (a0 : D) (S : Sto) : runFd md.g C d_size.fd [a0] S = s_size C a0 S := by kernel_rfl
theorem c_size (k : Nat) (a0 : D) (S : Sto) : callN md.g (k + 1) "size" [a0] S = s_size (callN md.g k) a0 S := (show callN md.g (k + 1) "size" [a0] S = runFd md.g (callN md.g k) d_size.fd [a0] S by kernel_rfl).trans (e_size _ a0 S)
theorem e_compared (C : Call) (a0 a1 : D) (S : Sto) : runFd md.g C d_compared.fd [a0, a1] S = s_compared C a0 a1 S := by kernel_rfl
theorem c_compared (k : Nat) (a0 a1 : D) (S : Sto) : callN md.g (k + 1) "compared" [a0, a1] S = s_compared (callN md.g k) a0 a1 S := (show callN md.g (k + 1) "compared" [a0, a1] S = runFd md.g (callN md.g k) d_compared.fd [a0, a1] S by kernel_rfl).trans (e_compared _ a0 a1 S)
theorem e_before (C : Call) (a0 a1 : D) (S : Sto) : runFd md.g C d_before.fd [a0, a1] S = s_before C a0 a1 S := by kernel_rfl
theorem c_before (k : Nat) (a0 a1 : D) (S : Sto) : callN md.g (k + 1) "before" [a0, a1] S = s_before (callN md.g k) a0 a1 S := (show callN md.g (k + 1) "before" [a0, a1] S = runFd md.g (callN md.g k) d_before.fd [a0, a1] S by kernel_rfl).trans (e_before _ a0 a1 S)
theorem e__law_box (C : Call) (a0 : D) (S : Sto) : runFd md.g C d__law_box.fd [a0] S = s__law_box C a0 S := by kernel_rfl
theorem c__law_box (k : Nat) (a0 : D) (S : Sto) : callN md.g (k + 1) "_law_box" [a0] S = s__law_box (callN md.g k) a0 S := (show callN md.g (k + 1) "_law_box" [a0] S = runFd md.g (callN md.g k) d__law_box.fd [a0] S by kernel_rfl).trans (e__law_box _ a0 S)
theorem e__law_take (C : Call) (a0 a1 : D) (S : Sto) : runFd md.g C d__law_take.fd [a0, a1] S = s__law_take C a0 a1 S := by kernel_rfl
theorem c__law_take (k : Nat) (a0 a1 : D) (S : Sto) : callN md.g (k + 1) "_law_take" [a0, a1] S = s__law_take (callN md.g k) a0 a1 S := (show callN md.g (k + 1) "_law_take" [a0, a1] S = runFd md.g (callN md.g k) d__law_take.fd [a0, a1] S by kernel_rfl).trans (e__law_take _ a0 a1 S)
theorem e__law_pick (C : Call) (a0 a1 : D) (S : Sto) : runFd md.g C d__law_pick.fd [a0, a1] S = s__law_pick C a0 a1 S := by kernel_rfl
theorem c__law_pick (k : Nat) (a0 a1 : D) (S : Sto) : callN md.g (k + 1) "_law_pick" [a0, a1] S = s__law_pick (callN md.g k) a0 a1 S := (show callN md.g (k + 1) "_law_pick" [a0, a1] S = runFd md.g (callN md.g k) d__law_pick.fd [a0, a1] S by kernel_rfl).trans (e__law_pick _ a0 a1 S)
theorem e__law_size (C : Call) (a0 : D) (S : Sto) : runFd md.g C d__law_size.fd [a0] S = s__law_size C a0 S := by kernel_rfl
theorem c__law_size (k : Nat) (a0 : D) (S : Sto) : callN md.g (k + 1) "_law_size" [a0] S = s__law_size (callN md.g k) a0 S := (show callN md.g (k + 1) "_law_size" [a0] S = runFd md.g (callN md.g k) d__law_size.fd [a0] S by kernel_rfl).trans (e__law_size _ a0 S)
theorem e__law_document (C : Call) (a0 a1 a2 a3 : D) (S : Sto) : runFd md.g C d__law_document.fd [a0, a1, a2, a3] S = s__law_document C a0 a1 a2 a3 S := by kernel_rfl
theorem c__law_document (k : Nat) (a0 a1 a2 a3 : D) (S : Sto) : callN md.g (k + 1) "_law_document" [a0, a1, a2, a3] S = s__law_document (callN md.g k) a0 a1 a2 a3 S := (show callN md.g (k + 1) "_law_document" [a0, a1, a2, a3] S = runFd md.g (callN md.g k) d__law_document.fd [a0, a1, a2, a3] S by kernel_rfl).trans (e__law_document _ a0 a1 a2 a3 S)
theorem e__law_order (C : Call) (a0 a1 : D) (S : Sto) : runFd md.g C d__law_order.fd [a0, a1] S = s__law_order C a0 a1 S := by kernel_rfl
theorem c__law_order (k : Nat) (a0 a1 : D) (S : Sto) : callN md.g (k + 1) "_law_order" [a0, a1] S = s__law_order (callN md.g k) a0 a1 S := (show callN md.g (k + 1) "_law_order" [a0, a1] S = runFd md.g (callN md.g k) d__law_order.fd [a0, a1] S by kernel_rfl).trans (e__law_order _ a0 a1 S)
theorem e__law_all (C : Call) (a0 a1 : D) (S : Sto) : runFd md.g C d__law_all.fd [a0, a1] S = s__law_all C a0 a1 S := by kernel_rfl
theorem c__law_all (k : Nat) (a0 a1 : D) (S : Sto) : callN md.g (k + 1) "_law_all" [a0, a1] S = s__law_all (callN md.g k) a0 a1 S := (show callN md.g (k + 1) "_law_all" [a0, a1] S = runFd md.g (callN md.g k) d__law_all.fd [a0, a1] S by kernel_rfl).trans (e__law_all _ a0 a1 S)
theorem e__law_behind (C : Call) (a0 a1 a2 a3 : D) (S : Sto) : runFd md.g C d__law_behind.fd [a0, a1, a2, a3] S = s__law_behind C a0 a1 a2 a3 S := by kernel_rfl
theorem c__law_behind (k : Nat) (a0 a1 a2 a3 : D) (S : Sto) : callN md.g (k + 1) "_law_behind" [a0, a1, a2, a3] S = s__law_behind (callN md.g k) a0 a1 a2 a3 S := (show callN md.g (k + 1) "_law_behind" [a0, a1, a2, a3] S = runFd md.g (callN md.g k) d__law_behind.fd [a0, a1, a2, a3] S by kernel_rfl).trans (e__law_behind _ a0 a1 a2 a3 S)
theorem e__law_empty (C : Call) (a0 : D) (S : Sto) : runFd md.g C d__law_empty.fd [a0] S = s__law_empty C a0 S := by kernel_rfl
theorem c__law_empty (k : Nat) (a0 : D) (S : Sto) : callN md.g (k + 1) "_law_empty" [a0] S = s__law_empty (callN md.g k) a0 S := (show callN md.g (k + 1) "_law_empty" [a0] S = runFd md.g (callN md.g k) d__law_empty.fd [a0] S by kernel_rfl).trans (e__law_empty _ a0 S)
theorem e__law_set (C : Call) (a0 a1 : D) (S : Sto) : runFd md.g C d__law_set.fd [a0, a1] S = s__law_set C a0 a1 S := by kernel_rfl
theorem c__law_set (k : Nat) (a0 a1 : D) (S : Sto) : callN md.g (k + 1) "_law_set" [a0, a1] S = s__law_set (callN md.g k) a0 a1 S := (show callN md.g (k + 1) "_law_set" [a0, a1] S = runFd md.g (callN md.g k) d__law_set.fd [a0, a1] S by kernel_rfl).trans (e__law_set _ a0 a1 S)
theorem e__law_near (C : Call) (a0 a1 : D) (S : Sto) : runFd md.g C d__law_near.fd [a0, a1] S = s__law_near C a0 a1 S := by kernel_rfl
theorem c__law_near (k : Nat) (a0 a1 : D) (S : Sto) : callN md.g (k + 1) "_law_near" [a0, a1] S = s__law_near (callN md.g k) a0 a1 S := (show callN md.g (k + 1) "_law_near" [a0, a1] S = runFd md.g (callN md.g k) d__law_near.fd [a0, a1] S by kernel_rfl).trans (e__law_near _ a0 a1 S)
theorem e__law_is_number (C : Call) (a0 : D) (S : Sto) : runFd md.g C d__law_is_number.fd [a0] S = s__law_is_number C a0 S := by kernel_rfl
theorem c__law_is_number (k : Nat) (a0 : D) (S : Sto) : callN md.g (k + 1) "_law_is_number" [a0] S = s__law_is_number (callN md.g k) a0 S := (show callN md.g (k + 1) "_law_is_number" [a0] S = runFd md.g (callN md.g k) d__law_is_number.fd [a0] S by kernel_rfl).trans (e__law_is_number _ a0 S)
theorem e_law (C : Call) (a0 : D) (S : Sto) : runFd md.g C d_law.fd [a0] S = s_law C a0 S := by kernel_rfl
theorem c_law (k : Nat) (a0 : D) (S : Sto) : callN md.g (k + 1) "law" [a0] S = s_law (callN md.g k) a0 S := (show callN md.g (k + 1) "law" [a0] S = runFd md.g (callN md.g k) d_law.fd [a0] S by kernel_rfl).trans (e_law _ a0 S)
end K01
set_option maxHeartbeats 4000000
namespace K01
open PySem Lw
/-! ### the box -/
def Box (S : Sto) : Prop := ∃ (a b c : Int) (cs : List Int), S = [.lst [.int a, .int b, .int c, .lst (cs.map D.int)]] ∧ 0 ≤ c
theorem pow18 : binD .Pow (.int 10) (.int 18) = some (.int 1000000000000000000) := by rfl
theorem take_neg (C : Call) (m a b c : Int) (cs : List Int) (hm : 0 < m) (hb : b < 0) : s__law_take C (.ref 0) (.int m) [.lst [.int a, .int b, .int c, .lst (cs.map D.int)]] =
    .ok (.int ((((a * 48271 + 69621 * (b + 1 + 20)) % 2147483647) / 7 + (a * 48271 + 69621 * (b + 1 + 20)) % 2147483647) % 1000003 % m)) [.lst [.int ((a * 48271 + 69621 * (b + 1 + 20)) % 2147483647), .int (b + 1), .int c, .lst (cs.map D.int)]] := by
  have h0 : (b == 0) = false := by simp; omega
  have h1 : decide (0 < b) = false := by simp; omega
  simp [s__law_take, s__law_take_b, h0, h1, bn_mulR, bn_mulL, inR64, bn_mod, bn_fdiv, hm]
theorem take_pos (C : Call) (m a b c : Int) (cs : List Int) (hm : 0 < m) (hm2 : m < 1073741824) (hb : 0 < b) : ∃ b', s__law_take C (.ref 0) (.int m) [.lst [.int a, .int b, .int c, .lst (cs.map D.int)]] =
    .ok (.int (a % m)) [.lst [.int (a / m), .int b', .int c, .lst (cs.map D.int)]] := by
  have h0 : (b == 0) = false := by simp; omega
  have h1 : decide (0 < b) = true := by simp; omega
  by_cases h : 0 < a / m
  · exact ⟨b - 1, by simp [s__law_take, s__law_take_b, h0, h1, bn_mulR, bn_mulL, inR64, bn_mod, bn_fdiv, hm, hm2, h]⟩
  · exact ⟨0, by simp [s__law_take, s__law_take_b, h0, h1, bn_mulR, bn_mulL, inR64, bn_mod, bn_fdiv, hm, hm2, h]⟩
theorem take_zero (C : Call) (m a c : Int) (cs : List Int) (hm : 0 < m) (hm2 : m < 1073741824) (hc : 0 ≤ c) : s__law_take C (.ref 0) (.int m) [.lst [.int a, .int 0, .int c, .lst (cs.map D.int)]] =
    match cs[c.toNat]? with
    | none => .ok (.int 0) [.lst [.int 0, .int 0, .int (c + 1), .lst (cs.map D.int)]]
    | some v => s__law_take C (.ref 0) (.int m) [.lst [.int v, .int (if 1000000000000000000 ≤ v then 60 else -9), .int (c + 1), .lst (cs.map D.int)]] := by
  obtain ⟨n, rfl⟩ : ∃ n : Nat, c = n := ⟨c.toNat, by omega⟩
  cases h : cs[n]? with
  | none =>
    have hl : ¬ (n : Int) < (cs.length : Int) := by
      have := List.getElem?_eq_none_iff.mp h
      omega
    simp [s__law_take, s__law_take_b, bn_mulR, bn_mulL, inR64, bn_mod, bn_fdiv, hm, hm2, pow18, hl, h]
  | some v =>
    have hl : (n : Int) < (cs.length : Int) := by
      have := (List.getElem?_eq_some_iff.mp h).1
      omega
    have hi : itemD (.lst (cs.map D.int)) (.int (n : Int)) = some (.int v) := itl_nat (by rw [List.getElem?_map, h]; rfl)
    by_cases hv : 1000000000000000000 ≤ v
    · by_cases hq : 0 < v / m
      · simp [s__law_take, s__law_take_b, bn_mulR, bn_mulL, inR64, bn_mod, bn_fdiv, hm, hm2, pow18, hl, hi, hv, h, hq]
      · simp [s__law_take, s__law_take_b, bn_mulR, bn_mulL, inR64, bn_mod, bn_fdiv, hm, hm2, pow18, hl, hi, hv, h, hq]
    · simp [s__law_take, s__law_take_b, bn_mulR, bn_mulL, inR64, bn_mod, bn_fdiv, hm, hm2, pow18, hl, hi, hv, h]
theorem take_ok (C : Call) (m : Int) (hm : 0 < m) (hm2 : m < 1073741824) {S : Sto} (hS : Box S) : ∃ (v : Int) (S' : Sto), s__law_take C (.ref 0) (.int m) S = .ok (.int v) S' ∧ 0 ≤ v ∧ v < m ∧ Box S' := by
  obtain ⟨a, b, c, cs, rfl, hc⟩ := hS
  have md : ∀ x : Int, 0 ≤ x % m ∧ x % m < m := fun x => ⟨Int.emod_nonneg _ (by omega), Int.emod_lt_of_pos _ hm⟩
  have pos : ∀ a b c, 0 ≤ c → 0 < b → ∃ (v : Int) (S' : Sto), s__law_take C (.ref 0) (.int m) [.lst [.int a, .int b, .int c, .lst (cs.map D.int)]] = .ok (.int v) S' ∧ 0 ≤ v ∧ v < m ∧ Box S' := fun a b c hc hb => by
    obtain ⟨b', e⟩ := take_pos C m a b c cs hm hm2 hb
    exact ⟨_, _, e, (md _).1, (md _).2, _, _, _, _, rfl, hc⟩
  have neg : ∀ a b c, 0 ≤ c → b < 0 → ∃ (v : Int) (S' : Sto), s__law_take C (.ref 0) (.int m) [.lst [.int a, .int b, .int c, .lst (cs.map D.int)]] = .ok (.int v) S' ∧ 0 ≤ v ∧ v < m ∧ Box S' := fun a b c hc hb =>
    ⟨_, _, take_neg C m a b c cs hm hb, (md _).1, (md _).2, _, _, _, _, rfl, hc⟩
  rcases Int.lt_trichotomy b 0 with h | h | h
  · exact neg a b c hc h
  · subst h
    rw [take_zero C m a c cs hm hm2 hc]
    cases cs[c.toNat]? with
    | none => exact ⟨0, _, rfl, by omega, hm, _, _, _, _, rfl, by omega⟩
    | some v =>
      dsimp only
      by_cases hv : 1000000000000000000 ≤ v
      · rw [if_pos hv]; exact pos _ _ _ (by omega) (by omega)
      · rw [if_neg hv]; exact neg _ _ _ (by omega) (by omega)
  · exact pos a b c hc h
/-! ### sizes, measures -/
abbrev g := md.g
theorem law_size_ok : ∀ (k : Nat) (ts : List Tr) (S : Sto), dps ts ≤ k → szs ts ≤ 16777216 → callN g (k + 1) "_law_size" [doc ts] S = .ok (.int (szs ts)) S := by
  intro k
  induction k with
  | zero =>
    intro ts S h hz
    have e : ts = [] := by
      cases ts with
      | nil => rfl
      | cons t ts => cases t; simp [dps, dp] at h
    subst e
    rw [c__law_size]
    simp [s__law_size, s__law_size_b, encs, compL, intsOf, szs]
  | succ k ih =>
    intro ts S h hz
    rw [c__law_size]
    have step : ∀ t ∈ ts, s__law_size_c1 (callN g (k + 1)) [.val (doc ts), .un] (enc t) S = .ok (some (.int (sz t))) S := by
      intro t ht
      have hd := dps_mem ht
      have hs := szs_mem ht
      obtain ⟨a, ks⟩ := t
      simp only [dp, sz] at hd hs
      have q := ih ks S (by omega) (by omega)
      simp [s__law_size_c1, s__law_size_c1_t, s__law_size_c1_e, enc, q, sz]
    have hl := szs_len ts
    have q := compL_enc (f := fun t => .int (sz t)) ts [] step
    simp [s__law_size, s__law_size_b, encs_len, show ts.length ≤ LINE from by unfold LINE; omega, q, ints_sum, szs_sum]
theorem trees_in_ok : ∀ (k : Nat) (ts : List Tr) (S : Sto), dps ts ≤ k → szs ts ≤ 16777216 → callN g (k + 1) "trees_in" [doc ts] S = .ok (.int (szs ts)) S := by
  intro k
  induction k with
  | zero =>
    intro ts S h hz
    have e : ts = [] := by
      cases ts with
      | nil => rfl
      | cons t ts => cases t; simp [dps, dp] at h
    subst e
    rw [c_trees_in]
    simp [s_trees_in, s_trees_in_b, encs, compL, intsOf, szs]
  | succ k ih =>
    intro ts S h hz
    rw [c_trees_in]
    have step : ∀ t ∈ ts, s_trees_in_c1 (callN g (k + 1)) [.val (doc ts), .un, .un] (enc t) S = .ok (some (.int (sz t))) S := by
      intro t ht
      have hd := dps_mem ht
      have hs := szs_mem ht
      obtain ⟨a, ks⟩ := t
      simp only [dp, sz] at hd hs
      have q := ih ks S (by omega) (by omega)
      simp [s_trees_in_c1, s_trees_in_c1_t, s_trees_in_c1_e, enc, q, sz]
    have hl := szs_len ts
    have q := compL_enc (f := fun t => .int (sz t)) ts [] step
    simp [s_trees_in, s_trees_in_b, encs_len, show ts.length ≤ LINE from by unfold LINE; omega, q, ints_sum, szs_sum]
theorem whole_ok (k : Nat) (i : Int) (S : Sto) : callN g (k + 1) "is_whole" [.int i] S = .ok (.bl true) S := by
  rw [c_is_whole]
  simp [s_is_whole, s_is_whole_b]
theorem within_ok (k : Nat) (i : Int) (S : Sto) (h : 0 ≤ i ∧ i ≤ 4) : callN g (k + 2) "is_within" [.int i, .int 0, .int 4] S = .ok (.bl true) S := by
  rw [c_is_within]
  simp [s_is_within, s_is_within_b, whole_ok, h.1, h.2]
/-- the loop of measure -/
theorem measure_loop (C : Call) (d : D) (lev : Int) (S : Sto) (hw : ∀ i : Int, 0 ≤ i ∧ i ≤ 4 → C "is_within" [.int i, .int 0, .int 4] S = .ok (.bl true) S) :
    ∀ (ts : List Tr) (m dd : Nat) (x y : Sl), labs ts → m + szs ts ≤ 300 → (∀ t ∈ ts, C "measure" [doc (kids t), .int (lev - 1)] S = .ok (.tup [.int (szs (kids t)), .int (dps (kids t))]) S) →
    ∃ x' y', forL (s_measure_l1 C) (encs ts) [.val d, .val (.int lev), .val (.int m), .val (.int dd), x, y] S = .nx [.val d, .val (.int lev), .val (.int ((m + szs ts : Nat) : Int)), .val (.int ((max dd (dps ts) : Nat) : Int)), x', y'] S
  | [], m, dd, x, y, _, _, _ => ⟨x, y, by simp [encs, forL, szs, dps]⟩
  | t :: ts, m, dd, x, y, hl, hz, hm => by
    obtain ⟨a, ks⟩ := t
    obtain ⟨⟨hlab, _⟩, hl2⟩ := hl
    have hm1 : C "measure" [.tup (encs ks), .int (lev - 1)] S = .ok (.tup [.int (szs ks), .int (dps ks)]) S := hm (.nd a ks) (List.mem_cons_self ..)
    have hz1 : m + (1 + szs ks + szs ts) ≤ 300 := by simpa [szs, sz] using hz
    obtain ⟨x', y', ih⟩ := measure_loop C d lev S hw ts (m + (1 + szs ks)) (max dd (1 + dps ks)) (.val (enc (.nd a ks))) (.val (.tup [.int (szs ks), .int (dps ks)])) hl2 (by omega) fun u hu => hm u (List.mem_cons_of_mem _ hu)
    refine ⟨x', y', ?_⟩
    have e1 : ((m + (1 + szs ks) : Nat) : Int) = (m : Int) + (1 + (szs ks : Int)) := by omega
    have e2 : ((max dd (1 + dps ks) : Nat) : Int) = if (1 + (dps ks : Int)) > (dd : Int) then 1 + (dps ks : Int) else (dd : Int) := by split <;> omega
    have e3 : decide (300 < (m : Int) + (1 + (szs ks : Int))) = false := by simp; omega
    rw [e1, e2] at ih
    have e4 : m + (1 + szs ks) + szs ts = m + szs (.nd a ks :: ts) := by simp [szs, sz]; omega
    have e5 : max (max dd (1 + dps ks)) (dps ts) = max dd (dps (.nd a ks :: ts)) := by simp [dps, dp]
    rw [e4, e5] at ih
    rw [← ih]
    simp [encs, forL, s_measure_l1, s_measure_l1_b, enc, hw a hlab, hm1, e3]
theorem measure_ok : ∀ (k : Nat) (ts : List Tr) (lev : Nat) (S : Sto), dps ts ≤ k → dps ts ≤ lev → dps ts ≤ 31 → szs ts ≤ 300 → labs ts → callN g (k + 3) "measure" [doc ts, .int lev] S = .ok (.tup [.int (szs ts), .int (dps ts)]) S := by
  intro k
  induction k with
  | zero =>
    intro ts lev S h h2 h31 hz hl
    have e : ts = [] := by
      cases ts with
      | nil => rfl
      | cons t ts => cases t; simp [dps, dp] at h
    subst e
    rw [c_measure]
    have q : cmpD .NotEq (.tup []) (.tup []) = some false := by rfl
    simp [s_measure, s_measure_b, encs, forL, szs, dps, q]
  | succ k ih =>
    intro ts lev S h h2 h31 hz hl
    rw [c_measure]
    cases ts with
    | nil =>
      have q : cmpD .NotEq (.tup []) (.tup []) = some false := by rfl
      simp [s_measure, s_measure_b, encs, forL, szs, dps, q]
    | cons t ts =>
      have hp : 1 ≤ lev := by cases t; simp [dps, dp] at h2; omega
      obtain ⟨x, y, q⟩ := measure_loop (callN g (k + 3)) (doc (t :: ts)) lev S (fun i hi => within_ok _ i S hi) (t :: ts) 0 0 .un .un hl (by omega) fun u hu => by
        have h1 := dps_mem hu
        have h3 := szs_mem hu
        have h4 := labs_mem hu hl
        obtain ⟨a, ks⟩ := u
        simp only [dp, sz] at h1 h3
        have q := ih ks (lev - 1) S (by omega) (by omega) (by omega) (by omega) h4.2
        have e : ((lev - 1 : Nat) : Int) = (lev : Int) - 1 := by omega
        rw [e] at q
        exact q
      have hne : cmpD .NotEq (doc (t :: ts)) (.tup []) = some true := by
        haveI : Decidable (t :: ts = []) := .isFalse (fun z => by cases z)
        have z := doc_eqv (t :: ts) [] h31 (by simp [dps])
        have e0 : (.tup [] : D) = doc [] := rfl
        rw [e0, cp_neD, z]
        simp
      have hl0 : ((lev : Int) == 0) = false := by simp; omega
      simp only [Nat.zero_add, Nat.zero_max, show ((0 : Nat) : Int) = 0 from rfl] at q
      simp [s_measure, s_measure_b, hne, hl0, q]
theorem check_ok (k : Nat) (ts : List Tr) (S : Sto) (h : dps ts ≤ k) (h2 : dps ts ≤ 30) (hz : szs ts ≤ 300) (hl : labs ts) : callN g (k + 4) "check_document" [doc ts] S = .ok .non S := by
  rw [c_check_document]
  have q := measure_ok k ts 30 S h h2 (by omega) hz hl
  simp only [show ((30 : Nat) : Int) = 30 from rfl] at q
  simp [s_check_document, s_check_document_b, q]
theorem size_ok (k : Nat) (ts : List Tr) (S : Sto) (h : dps ts ≤ k) (h2 : dps ts ≤ 30) (hz : szs ts ≤ 300) (hl : labs ts) : callN g (k + 5) "size" [doc ts] S = .ok (.int (szs ts)) S := by
  rw [c_size]
  have q := check_ok k ts S h h2 hz hl
  have q2 := trees_in_ok (k + 3) ts S (by omega) (by omega)
  simp [s_size, s_size_b, q, q2]
/-- the loop of compared -/
theorem compared_loop (C : Call) (p q r s : Sl) (S : Sto) : ∀ (ts us : List Tr) (f a b c d : Sl), (∀ t ∈ ts, ∀ u ∈ us, C "compared" [doc (kids t), doc (kids u)] S = .ok (.int (cmps (kids t) (kids u))) S) →
    (cmpz ts us = 0 → ∃ f2 a2 b2 c2 d2, forL (s_compared_l1 C) (((encs ts).zip (encs us)).map fun p => D.tup [p.1, p.2]) [p, q, r, s, f, a, b, c, d] S = .nx [p, q, r, s, f2, a2, b2, c2, d2] S) ∧
    (cmpz ts us ≠ 0 → forL (s_compared_l1 C) (((encs ts).zip (encs us)).map fun p => D.tup [p.1, p.2]) [p, q, r, s, f, a, b, c, d] S = .ret (.int (cmpz ts us)) S)
  | [], us, f, a, b, c, d, _ => ⟨fun _ => ⟨f, a, b, c, d, by simp [encs, forL]⟩, fun h => absurd (by simp [cmpz]) h⟩
  | t :: ts, [], f, a, b, c, d, _ => ⟨fun _ => ⟨f, a, b, c, d, by simp [encs, forL]⟩, fun h => absurd (by simp [cmpz]) h⟩
  | t :: ts, u :: us, f, a, b, c, d, hc => by
    have h1 := hc t (List.mem_cons_self ..) u (List.mem_cons_self ..)
    obtain ⟨x, ks⟩ := t
    obtain ⟨y, ls⟩ := u
    have h1 : C "compared" [.tup (encs ks), .tup (encs ls)] S = .ok (.int (cmps ks ls)) S := h1
    have ih := compared_loop C p q r s S ts us (.val (.int (cmps ks ls))) (.val (.int x)) (.val (.tup (encs ks))) (.val (.int y)) (.val (.tup (encs ls))) fun t ht u hu => hc t (List.mem_cons_of_mem _ ht) u (List.mem_cons_of_mem _ hu)
    have eT : cmpT (.nd x ks) (.nd y ls) = if x = y then cmps ks ls else sgn x y := by simp [cmpT, cmps]
    by_cases hxy : x = y
    · have b0 : (x == y) = true := by simp [hxy]
      rw [if_pos hxy] at eT
      by_cases h0 : cmps ks ls = 0
      · have eZ : cmpz (.nd x ks :: ts) (.nd y ls :: us) = cmpz ts us := by simp [cmpz, eT, h0]
        rw [eZ]
        have step : s_compared_l1 C (.tup [enc (.nd x ks), enc (.nd y ls)]) [p, q, r, s, f, a, b, c, d] S = .nx [p, q, r, s, .val (.int (cmps ks ls)), .val (.int x), .val (.tup (encs ks)), .val (.int y), .val (.tup (encs ls))] S := by
          simp [s_compared_l1, s_compared_l1_b, enc, b0, h1, h0]
        refine ⟨fun z => ?_, fun z => ?_⟩
        · obtain ⟨f', a', b', c', d', e⟩ := ih.1 z
          exact ⟨f', a', b', c', d', by simp only [encs, List.zip_cons_cons, List.map_cons, forL, step]; exact e⟩
        · simp only [encs, List.zip_cons_cons, List.map_cons, forL, step]; exact ih.2 z
      · have eZ : cmpz (.nd x ks :: ts) (.nd y ls :: us) = cmps ks ls := by simp [cmpz, eT, h0]
        rw [eZ]
        refine ⟨fun z => absurd z h0, fun _ => ?_⟩
        have step : s_compared_l1 C (.tup [enc (.nd x ks), enc (.nd y ls)]) [p, q, r, s, f, a, b, c, d] S = .ret (.int (cmps ks ls)) S := by
          simp [s_compared_l1, s_compared_l1_b, enc, b0, h1, h0]
        simp only [encs, List.zip_cons_cons, List.map_cons, forL, step]
    · have b0 : (x == y) = false := by simp [hxy]
      rw [if_neg hxy] at eT
      have hn := sgn_ne x y
      have eZ : cmpz (.nd x ks :: ts) (.nd y ls :: us) = sgn x y := by simp [cmpz, eT, hn]
      rw [eZ]
      refine ⟨fun z => absurd z hn, fun _ => ?_⟩
      have step : s_compared_l1 C (.tup [enc (.nd x ks), enc (.nd y ls)]) [p, q, r, s, f, a, b, c, d] S = .ret (.int (sgn x y)) S := by
        unfold sgn
        by_cases hlt : x < y
        · simp [s_compared_l1, s_compared_l1_b, enc, b0, hlt]
        · simp [s_compared_l1, s_compared_l1_b, enc, b0, hlt]
      simp only [encs, List.zip_cons_cons, List.map_cons, forL, step]
theorem compared_ok : ∀ (k : Nat) (d e : List Tr) (S : Sto), dps d ≤ k → dps e ≤ k → szs d ≤ 300 → szs e ≤ 300 → callN g (k + 2) "compared" [doc d, doc e] S = .ok (.int (cmps d e)) S := by
  intro k
  induction k with
  | zero =>
    intro d e S h1 h2 hz1 hz2
    have hd : d = [] := by cases d with | nil => rfl | cons t ts => cases t; simp [dps, dp] at h1
    have he : e = [] := by cases e with | nil => rfl | cons t ts => cases t; simp [dps, dp] at h2
    subst hd he
    have q := trees_in_ok 0 [] S h1 (by omega)
    rw [c_compared]
    simp [s_compared, s_compared_b, q, szs, encs, zipA, zipD, forL, cmps, cmpz]
  | succ k ih =>
    intro d e S h1 h2 hz1 hz2
    have q1 := trees_in_ok (k + 1) d S h1 (by omega)
    have q2 := trees_in_ok (k + 1) e S h2 (by omega)
    have L := compared_loop (callN g (k + 2)) (.val (doc d)) (.val (doc e)) (.val (.int (szs d))) (.val (.int (szs e))) S d e .un .un .un .un .un fun t ht u hu => by
      have a1 := dps_mem ht
      have a2 := szs_mem ht
      have a3 := dps_mem hu
      have a4 := szs_mem hu
      obtain ⟨x, ks⟩ := t
      obtain ⟨y, ls⟩ := u
      simp only [dp, sz] at a1 a2 a3 a4
      exact ih ks ls S (by omega) (by omega) (by omega) (by omega)
    rw [c_compared]
    by_cases hs : (szs d : Int) = szs e
    · have b0 : ((szs d : Int) == szs e) = true := by simp [hs]
      have ec : cmps d e = cmpz d e := by simp [cmps, hs]
      rw [ec]
      by_cases hz : cmpz d e = 0
      · obtain ⟨f, a, b, c, dd, L1⟩ := L.1 hz
        simp [s_compared, s_compared_b, q1, q2, b0, zipA, zipD, L1, hz]
      · have L1 := L.2 hz
        simp [s_compared, s_compared_b, q1, q2, b0, zipA, zipD, L1]
    · have b0 : ((szs d : Int) == szs e) = false := by simp [hs]
      have ec : cmps d e = sgn (szs d) (szs e) := by simp [cmps, hs]
      rw [ec]
      unfold sgn
      by_cases hlt : (szs d : Int) < szs e
      · simp [s_compared, s_compared_b, q1, q2, b0, hlt]
      · simp [s_compared, s_compared_b, q1, q2, b0, hlt]
theorem before_ok (k : Nat) (d e : List Tr) (S : Sto) (h1 : dps d ≤ k) (h2 : dps e ≤ k) (g1 : dps d ≤ 30) (g2 : dps e ≤ 30) (hz1 : szs d ≤ 300) (hz2 : szs e ≤ 300) (hl1 : labs d) (hl2 : labs e) : callN g (k + 5) "before" [doc d, doc e] S = .ok (.int (cmps d e)) S := by
  rw [c_before]
  have q1 := check_ok k d S h1 g1 hz1 hl1
  have q2 := check_ok k e S h2 g2 hz2 hl2
  have q3 := compared_ok (k + 2) d e S (by omega) (by omega) hz1 hz2
  simp [s_before, s_before_b, q1, q2, q3]
end K01
set_option maxHeartbeats 4000000
namespace K01
open PySem Lw
/-! ### the law's own order -/
theorem order_loop (C : Call) (d e : List Tr) (q r : Sl) (S : Sto) (hc : ∀ t ∈ d, ∀ u ∈ e, C "_law_order" [doc (kids t), doc (kids u)] S = .ok (.int (cmps (kids t) (kids u))) S) :
    ∀ (m j : Nat) (x f : Sl), j + m ≤ d.length → j + m ≤ e.length → (d.length ≤ j + m ∨ e.length ≤ j + m) →
    (cmpz (d.drop j) (e.drop j) = 0 → ∃ x2 f2, forL (s__law_order_l1 C) (rng j m) [.val (doc d), .val (doc e), x, q, r, f] S = .nx [.val (doc d), .val (doc e), x2, q, r, f2] S) ∧
    (cmpz (d.drop j) (e.drop j) ≠ 0 → forL (s__law_order_l1 C) (rng j m) [.val (doc d), .val (doc e), x, q, r, f] S = .ret (.int (cmpz (d.drop j) (e.drop j))) S)
  | 0, j, x, f, h1, h2, h3 => by
    have e0 : cmpz (d.drop j) (e.drop j) = 0 := by
      rcases h3 with h | h
      · rw [List.drop_eq_nil_of_le (by omega)]; simp [cmpz]
      · rw [List.drop_eq_nil_of_le (as := e) (by omega)]
        cases d.drop j <;> simp [cmpz]
    exact ⟨fun _ => ⟨x, f, by simp [rng_z, forL]⟩, fun h => absurd e0 h⟩
  | m + 1, j, x, f, h1, h2, h3 => by
    have hd : j < d.length := by omega
    have he : j < e.length := by omega
    have g1 : d.drop j = d[j] :: d.drop (j + 1) := List.drop_eq_getElem_cons hd
    have g2 : e.drop j = e[j] :: e.drop (j + 1) := List.drop_eq_getElem_cons he
    have i1 : itemD (doc d) (.int (j : Int)) = some (enc d[j]) := it_nat (by rw [encs_get, List.getElem?_eq_getElem hd]; rfl)
    have i2 : itemD (doc e) (.int (j : Int)) = some (enc e[j]) := it_nat (by rw [encs_get, List.getElem?_eq_getElem he]; rfl)
    have k1 := hc d[j] (List.getElem_mem hd) e[j] (List.getElem_mem he)
    rw [g1, g2]
    generalize d[j] = t at *
    generalize e[j] = u at *
    obtain ⟨a, ks⟩ := t
    obtain ⟨b, ls⟩ := u
    have k1 : C "_law_order" [.tup (encs ks), .tup (encs ls)] S = .ok (.int (cmps ks ls)) S := k1
    have ih := order_loop C d e q r S hc m (j + 1) (.val (.int (j : Int))) (.val (.int (cmps ks ls))) (by omega) (by omega) (by omega)
    have eT : cmpT (.nd a ks) (.nd b ls) = if a = b then cmps ks ls else sgn a b := by simp [cmpT, cmps]
    by_cases hxy : a = b
    · have b0 : (a == b) = true := by simp [hxy]
      rw [if_pos hxy] at eT
      by_cases h0 : cmps ks ls = 0
      · have eZ : cmpz (.nd a ks :: d.drop (j + 1)) (.nd b ls :: e.drop (j + 1)) = cmpz (d.drop (j + 1)) (e.drop (j + 1)) := by simp [cmpz, eT, h0]
        rw [eZ]
        have step : s__law_order_l1 C (.int (j : Int)) [.val (doc d), .val (doc e), x, q, r, f] S = .nx [.val (doc d), .val (doc e), .val (.int (j : Int)), q, r, .val (.int (cmps ks ls))] S := by
          simp [s__law_order_l1, s__law_order_l1_b, i1, i2, enc, b0, k1, h0]
        refine ⟨fun z => ?_, fun z => ?_⟩
        · obtain ⟨x2, f2, q⟩ := ih.1 z
          exact ⟨x2, f2, by simp only [rng_s, forL, step]; exact q⟩
        · simp only [rng_s, forL, step]; exact ih.2 z
      · have eZ : cmpz (.nd a ks :: d.drop (j + 1)) (.nd b ls :: e.drop (j + 1)) = cmps ks ls := by simp [cmpz, eT, h0]
        rw [eZ]
        refine ⟨fun z => absurd z h0, fun _ => ?_⟩
        have step : s__law_order_l1 C (.int (j : Int)) [.val (doc d), .val (doc e), x, q, r, f] S = .ret (.int (cmps ks ls)) S := by
          simp [s__law_order_l1, s__law_order_l1_b, i1, i2, enc, b0, k1, h0]
        simp only [rng_s, forL, step]
    · have b0 : (a == b) = false := by simp [hxy]
      rw [if_neg hxy] at eT
      have hn := sgn_ne a b
      have eZ : cmpz (.nd a ks :: d.drop (j + 1)) (.nd b ls :: e.drop (j + 1)) = sgn a b := by simp [cmpz, eT, hn]
      rw [eZ]
      refine ⟨fun z => absurd z hn, fun _ => ?_⟩
      have step : s__law_order_l1 C (.int (j : Int)) [.val (doc d), .val (doc e), x, q, r, f] S = .ret (.int (sgn a b)) S := by
        unfold sgn
        by_cases hlt : a < b
        · simp [s__law_order_l1, s__law_order_l1_b, i1, i2, enc, b0, hlt]
        · simp [s__law_order_l1, s__law_order_l1_b, i1, i2, enc, b0, hlt]
      simp only [rng_s, forL, step]
theorem order_ok : ∀ (k : Nat) (d e : List Tr) (S : Sto), dps d ≤ k → dps e ≤ k → szs d ≤ 300 → szs e ≤ 300 → callN g (k + 2) "_law_order" [doc d, doc e] S = .ok (.int (cmps d e)) S := by
  intro k
  induction k with
  | zero =>
    intro d e S h1 h2 hz1 hz2
    have hd : d = [] := by cases d with | nil => rfl | cons t ts => cases t; simp [dps, dp] at h1
    have he : e = [] := by cases e with | nil => rfl | cons t ts => cases t; simp [dps, dp] at h2
    subst hd he
    have q := law_size_ok 0 [] S h1 (by omega)
    have r := rangeA1_nat 0 S (by omega)
    simp only [show ((0 : Nat) : Int) = 0 from rfl] at r
    rw [c__law_order]
    simp [s__law_order, s__law_order_b, q, szs, encs, r, rng_z, forL, cmps, cmpz]
  | succ k ih =>
    intro d e S h1 h2 hz1 hz2
    have q1 := law_size_ok (k + 1) d S h1 (by omega)
    have q2 := law_size_ok (k + 1) e S h2 (by omega)
    have l1 := szs_len d
    have l2 := szs_len e
    have r := rangeA1_nat (min d.length e.length) S (by omega)
    have L := order_loop (callN g (k + 2)) d e (.val (.int (szs d))) (.val (.int (szs e))) S (fun t ht u hu => by
      have a1 := dps_mem ht
      have a2 := szs_mem ht
      have a3 := dps_mem hu
      have a4 := szs_mem hu
      obtain ⟨x, ks⟩ := t
      obtain ⟨y, ls⟩ := u
      simp only [dp, sz] at a1 a2 a3 a4
      exact ih ks ls S (by omega) (by omega) (by omega) (by omega)) (min d.length e.length) 0 .un .un (by omega) (by omega) (by omega)
    simp only [List.drop_zero] at L
    rw [c__law_order]
    by_cases hs : (szs d : Int) = szs e
    · have b0 : ((szs d : Int) == szs e) = true := by simp [hs]
      have ec : cmps d e = cmpz d e := by simp [cmps, hs]
      rw [ec]
      by_cases hz : cmpz d e = 0
      · obtain ⟨f, a, L1⟩ := L.1 hz
        simp [s__law_order, s__law_order_b, q1, q2, b0, encs_len, -ca_min, ca_min_nat, r, L1, hz]
      · have L1 := L.2 hz
        simp [s__law_order, s__law_order_b, q1, q2, b0, encs_len, -ca_min, ca_min_nat, r, L1]
    · have b0 : ((szs d : Int) == szs e) = false := by simp [hs]
      have ec : cmps d e = sgn (szs d) (szs e) := by simp [cmps, hs]
      rw [ec]
      unfold sgn
      by_cases hlt : (szs d : Int) < szs e
      · simp [s__law_order, s__law_order_b, q1, q2, b0, hlt]
      · simp [s__law_order, s__law_order_b, q1, q2, b0, hlt]
end K01
set_option maxHeartbeats 4000000
namespace K01
open PySem Lw
/-! ### drawing -/
theorem pick_ok (k : Nat) (ls : List Int) (S : Sto) (h0 : ls ≠ []) (hl : ls.length < 1000000) (hS : Box S) : ∃ v S', v ∈ ls ∧ callN g (k + 2) "_law_pick" [.ref 0, .lst (ls.map D.int)] S = .ok (.int v) S' ∧ Box S' := by
  have hp : 0 < ls.length := by cases ls; exact absurd rfl h0; simp
  obtain ⟨v, S', e, h1, h2, hB⟩ := take_ok (callN g k) (ls.length : Int) (by omega) (by omega) hS
  obtain ⟨i, rfl⟩ : ∃ i : Nat, v = i := ⟨v.toNat, by omega⟩
  have hi : i < ls.length := by omega
  refine ⟨ls[i], S', List.getElem_mem hi, ?_, hB⟩
  have hit : itemD (.lst (ls.map D.int)) (.int (i : Int)) = some (.int ls[i]) := itl_nat (by rw [List.getElem?_map, List.getElem?_eq_getElem hi]; rfl)
  rw [c__law_pick]
  have e2 : callN g (k + 1) "_law_take" [.ref 0, .int (ls.length : Int)] S = .ok (.int (i : Int)) S' := by rw [c__law_take]; exact e
  simp [s__law_pick, s__law_pick_b, e2, hit]
theorem take_c (k : Nat) (m : Int) (hm : 0 < m) (hm2 : m < 1073741824) {S : Sto} (hS : Box S) : ∃ (v : Nat) (S' : Sto), callN g (k + 1) "_law_take" [.ref 0, .int m] S = .ok (.int (v : Int)) S' ∧ (v : Int) < m ∧ Box S' := by
  obtain ⟨v, S', e, h1, h2, hB⟩ := take_ok (callN g k) m hm hm2 hS
  obtain ⟨i, rfl⟩ : ∃ i : Nat, v = i := ⟨v.toNat, by omega⟩
  exact ⟨i, S', by rw [c__law_take]; exact e, h2, hB⟩
abbrev menu : List D := [.int 0, .int 1, .int 2, .int 3, .int 4]
theorem pick5 (k : Nat) (S : Sto) (hS : Box S) : ∃ v S', (0 ≤ v ∧ v ≤ 4) ∧ callN g (k + 2) "_law_pick" [.ref 0, .lst menu] S = .ok (.int v) S' ∧ Box S' := by
  obtain ⟨v, S', h1, h2, h3⟩ := pick_ok k [0, 1, 2, 3, 4] S (by simp) (by simp) hS
  exact ⟨v, S', by simp at h1; omega, h2, h3⟩
theorem doc_loop (k : Nat) (most deep : Nat) (hmost : most ≤ 8) (hdeep : 1 ≤ deep) (hrec : ∀ (m : Nat) (S : Sto), m ≤ 8 → Box S → 1 < deep → ∃ ts S', callN g (k + 2) "_law_document" [.ref 0, .lst menu, .int (m : Int), .int ((deep : Int) - 1)] S = .ok (doc ts) S' ∧ Box S' ∧ szs ts ≤ m ∧ dps ts ≤ deep - 1 ∧ labs ts)
    (hk : deep ≤ k + 1) : ∀ (m j : Nat) (ts : List Tr) (left : Nat) (x y : Sl) (S : Sto), Box S → szs ts + left ≤ most → dps ts ≤ deep → labs ts →
    ∃ ts' l x' y' S', forL (s__law_document_l1 (callN g (k + 2))) (rng j m) [.val (.ref 0), .val (.lst menu), .val (.int (most : Int)), .val (.int (deep : Int)), .own (encs ts), .val (.int (left : Int)), x, y] S =
      .nx [.val (.ref 0), .val (.lst menu), .val (.int (most : Int)), .val (.int (deep : Int)), .own (encs ts'), l, x', y'] S' ∧ Box S' ∧ szs ts' ≤ most ∧ dps ts' ≤ deep ∧ labs ts'
  | 0, j, ts, left, x, y, S, hS, h1, h2, h3 => ⟨ts, _, x, y, S, by rw [rng_z]; rfl, hS, by omega, h2, h3⟩
  | m + 1, j, ts, left, x, y, S, hS, h1, h2, h3 => by
    rw [rng_s]
    by_cases hl : left = 0
    · subst hl
      refine ⟨ts, .val (.int 0), .val (.int (j : Int)), y, S, ?_, hS, by omega, h2, h3⟩
      simp [forL, s__law_document_l1, s__law_document_l1_b]
    · have hl0 : decide ((left : Int) ≤ 0) = false := by simp; omega
      obtain ⟨v, S1, e1, hv, hS1⟩ := take_c (k + 1) 4 (by omega) (by omega) hS
      by_cases hv0 : v = 0
      · subst hv0
        refine ⟨ts, .val (.int (left : Int)), .val (.int (j : Int)), y, S1, ?_, hS1, by omega, h2, h3⟩
        simp only [show ((0 : Nat) : Int) = 0 from rfl] at e1
        simp [forL, s__law_document_l1, s__law_document_l1_b, hl0, hl, e1]
      · have hv1 : ((v : Int) == 0) = false := by simp; omega
        have fin : ∀ (ks : List Tr) (S2 : Sto), Box S2 → szs ks + 1 ≤ left → dps ks + 1 ≤ deep → labs ks → ∃ lb S3, (0 ≤ lb ∧ lb ≤ 4) ∧ Box S3 ∧ callN g (k + 2) "_law_pick" [.ref 0, .lst menu] S2 = .ok (.int lb) S3 ∧ callN g (k + 2) "_law_size" [.tup (encs ks)] S3 = .ok (.int (szs ks)) S3 ∧
            szs (ts ++ [.nd lb ks]) + (left - 1 - szs ks) ≤ most ∧ dps (ts ++ [.nd lb ks]) ≤ deep ∧ labs (ts ++ [.nd lb ks]) ∧ ((left - 1 - szs ks : Nat) : Int) = (left : Int) - 1 - (szs ks : Int) ∧ (encs ts).length < LINE ∧ encs (ts ++ [.nd lb ks]) = encs ts ++ [.tup [.int lb, .tup (encs ks)]] := fun ks S2 hS2 g1 g2 g3 => by
          obtain ⟨lb, S3, hlb, ep, hS3⟩ := pick5 k S2 hS2
          have hsz := szs_len ts
          exact ⟨lb, S3, hlb, hS3, ep, law_size_ok (k + 1) ks S3 (by omega) (by omega), by rw [szs_app]; simp [szs, sz]; omega, by rw [dps_app]; simp [dps, dp]; omega, (labs_app _ _).mpr ⟨h3, ⟨hlb, g3⟩, trivial⟩, by omega, by rw [encs_len]; unfold LINE; omega, by rw [encs_app]; simp [encs, enc]⟩
        by_cases hd : 1 < deep
        · have hd1 : decide ((1 : Int) < (deep : Int)) = true := by simp; omega
          obtain ⟨u, S2, e2, hu, hS2⟩ := take_c (k + 1) (left : Int) (by omega) (by omega) hS1
          obtain ⟨ks, S3, e3, hS3, k1, k2, k3⟩ := hrec u S2 (by omega) hS2 hd
          obtain ⟨lb, S4, hlb, hS4, e4, e5, f1, f2, f3, f4, f5, f6⟩ := fin ks S3 hS3 (by omega) (by omega) k3
          obtain ⟨ts', l, x', y', S', ih, r⟩ := doc_loop k most deep hmost hdeep hrec hk m (j + 1) (ts ++ [.nd lb ks]) (left - 1 - szs ks) (.val (.int (j : Int))) (.val (.tup (encs ks))) S4 hS4 f1 f2 f3
          refine ⟨ts', l, x', y', S', ?_, r⟩
          rw [← ih, f4, f6]
          simp [forL, s__law_document_l1, s__law_document_l1_b, hl0, hl, e1, hv1, hv0, hd1, hd, e2, e3, e4, e5, f5]
        · have hd1 : decide ((1 : Int) < (deep : Int)) = false := by simp; omega
          obtain ⟨lb, S4, hlb, hS4, e4, e5, f1, f2, f3, f4, f5, f6⟩ := fin [] S1 hS1 (by simp [szs]; omega) (by simp [dps]; omega) trivial
          obtain ⟨ts', l, x', y', S', ih, r⟩ := doc_loop k most deep hmost hdeep hrec hk m (j + 1) (ts ++ [.nd lb []]) (left - 1 - szs []) (.val (.int (j : Int))) (.val (.tup (encs []))) S4 hS4 f1 f2 f3
          refine ⟨ts', l, x', y', S', ?_, r⟩
          rw [← ih, f4, f6]
          have z : encs [] = [] := rfl
          rw [z] at e5 ⊢
          simp [forL, s__law_document_l1, s__law_document_l1_b, hl0, hl, e1, hv1, hv0, hd1, hd, e4, e5, f5]
theorem document_ok : ∀ (k : Nat) (most deep : Nat) (S : Sto), most ≤ 8 → 1 ≤ deep → deep ≤ k + 1 → Box S →
    ∃ ts S', callN g (k + 3) "_law_document" [.ref 0, .lst menu, .int (most : Int), .int (deep : Int)] S = .ok (doc ts) S' ∧ Box S' ∧ szs ts ≤ most ∧ dps ts ≤ deep ∧ labs ts := by
  intro k
  induction k with
  | zero =>
    intro most deep S h1 h2 h3 hS
    obtain ⟨ts, l, x, y, S', e, hS', r1, r2, r3⟩ := doc_loop 0 most deep h1 h2 (fun m S _ _ hd => by omega) h3 most 0 [] most .un .un S hS (by simp [szs]) (by simp [dps]) trivial
    refine ⟨ts, S', ?_, hS', r1, r2, r3⟩
    rw [c__law_document]
    have r := rangeA1_nat most S (by omega)
    simp only [show encs [] = ([] : List D) from rfl] at e
    simp [s__law_document, s__law_document_b, r, e]
  | succ k ih =>
    intro most deep S h1 h2 h3 hS
    obtain ⟨ts, l, x, y, S', e, hS', r1, r2, r3⟩ := doc_loop (k + 1) most deep h1 h2 (fun m S hm hS hd => by
      obtain ⟨ts, S', e, r⟩ := ih m (deep - 1) S hm (by omega) (by omega) hS
      have z : ((deep - 1 : Nat) : Int) = (deep : Int) - 1 := by omega
      rw [z] at e
      exact ⟨ts, S', e, r⟩) h3 most 0 [] most .un .un S hS (by simp [szs]) (by simp [dps]) trivial
    refine ⟨ts, S', ?_, hS', r1, r2, r3⟩
    rw [c__law_document]
    have r := rangeA1_nat most S (by omega)
    simp only [show encs [] = ([] : List D) from rfl] at e
    simp [s__law_document, s__law_document_b, r, e]
end K01
set_option maxHeartbeats 4000000
namespace K01
open PySem Lw
/-! ### a document near another -/
theorem near_mid (l r : List Tr) (a v : Int) (ks ks' : List Tr) (c : Nat) (hs : szs ks' ≤ szs ks + c) (hd : dps ks' ≤ dps ks + c) :
    szs (l ++ .nd v ks' :: r) ≤ szs (l ++ .nd a ks :: r) + c ∧ dps (l ++ .nd v ks' :: r) ≤ dps (l ++ .nd a ks :: r) + c := by
  simp only [szs_app, dps_app, szs, sz, dps, dp]
  omega
theorem near_ok : ∀ (k : Nat) (ts : List Tr) (S : Sto), Box S → szs ts ≤ 300 → dps ts ≤ k → labs ts →
    ∃ ts' S', callN g (k + 2) "_law_near" [.ref 0, doc ts] S = .ok (doc ts') S' ∧ Box S' ∧ szs ts' ≤ szs ts + 1 ∧ dps ts' ≤ dps ts + 1 ∧ labs ts' := by
  intro k
  induction k with
  | zero =>
    intro ts S hS hz hd hl
    have e : ts = [] := by cases ts with | nil => rfl | cons t ts => cases t; simp [dps, dp] at hd
    subst e
    obtain ⟨v, S', e1, hv, hB⟩ := take_c 0 5 (by omega) (by omega) hS
    refine ⟨[.nd v []], S', ?_, hB, by simp [szs, sz], by simp [dps, dp], ⟨⟨by omega, by omega⟩, trivial⟩, trivial⟩
    rw [c__law_near]
    simp [s__law_near, s__law_near_b, encs, enc, e1, bn_addT]
  | succ k ih =>
    intro ts S hS hz hd hl
    rw [c__law_near]
    have hlen := szs_len ts
    have append : ∀ S, Box S → ∃ v S', callN g (k + 2) "_law_take" [.ref 0, .int 5] S = .ok (.int v) S' ∧ Box S' ∧ szs (ts ++ [.nd v []]) ≤ szs ts + 1 ∧ dps (ts ++ [.nd v []]) ≤ dps ts + 1 ∧ labs (ts ++ [.nd v []]) ∧ encs (ts ++ [.nd v []]) = encs ts ++ [.tup [.int v, .tup []]] := fun S hS => by
      obtain ⟨v, S', e1, hv, hB⟩ := take_c (k + 1) 5 (by omega) (by omega) hS
      exact ⟨v, S', e1, hB, by simp [szs_app, szs, sz], by simp [dps_app, dps, dp]; omega, (labs_app _ _).mpr ⟨hl, ⟨⟨by omega, by omega⟩, trivial⟩, trivial⟩, by simp [encs_app, encs, enc]⟩
    by_cases hne : ts = []
    · subst hne
      obtain ⟨v, S', e1, hB, g1, g2, g3, g4⟩ := append S hS
      refine ⟨_, S', ?_, hB, g1, g2, g3⟩
      show _ = R.ok (D.tup (encs _)) _
      rw [g4]
      simp [s__law_near, s__law_near_b, encs, e1, bn_addT]
    · have hp : 0 < ts.length := by cases ts; exact absurd rfl hne; simp
      have hie : (encs ts).isEmpty = false := by cases ts; exact absurd rfl hne; simp [encs]
      obtain ⟨u, S1, e1, hu, hB1⟩ := take_c (k + 1) 3 (by omega) (by omega) hS
      by_cases hu0 : u = 0
      · subst hu0
        obtain ⟨v, S', e2, hB, g1, g2, g3, g4⟩ := append S1 hB1
        refine ⟨_, S', ?_, hB, g1, g2, g3⟩
        show _ = R.ok (D.tup (encs _)) _
        rw [g4]
        simp only [show ((0 : Nat) : Int) = 0 from rfl] at e1
        simp [s__law_near, s__law_near_b, hie, e1, e2, bn_addT, encs_len, show ts.length + 1 ≤ LINE from by unfold LINE; omega]
      · obtain ⟨i, S2, e2, hi, hB2⟩ := take_c (k + 1) (ts.length : Int) (by omega) (by omega) hB1
        obtain ⟨w, S3, e3, hw, hB3⟩ := take_c (k + 1) 3 (by omega) (by omega) hB2
        obtain ⟨l, t, r, rfl, rfl⟩ := split_at ts i (by omega)
        obtain ⟨a, ks⟩ := t
        obtain ⟨hl1, hl2⟩ := (labs_app _ _).mp hl
        obtain ⟨⟨hla, hlk⟩, hlr⟩ := hl2
        have f1 := sl_to l (.nd a ks) r
        have f2 := sl_from l (.nd a ks) r
        have f3 := it_mid l (.nd a ks) r
        have hlen2 : l.length + 1 + r.length ≤ LINE := by simp at hlen; unfold LINE; omega
        have lenc : (encs (l ++ .nd a ks :: r)).length = (l ++ .nd a ks :: r).length := encs_len _
        have h1 : (encs l).length = l.length := encs_len l
        have h2 : (encs r).length = r.length := encs_len r
        by_cases hw0 : w = 0
        · subst hw0
          simp only [show ((0 : Nat) : Int) = 0 from rfl] at e3
          refine ⟨l ++ r, S3, ?_, hB3, by simp only [szs_app, szs]; omega, by simp only [dps_app, dps]; omega, (labs_app _ _).mpr ⟨hl1, hlr⟩⟩
          show _ = R.ok (D.tup (encs _)) _
          rw [encs_app]
          simp only [List.length_append, List.length_cons] at e2; push_cast at e2
          simp [s__law_near, s__law_near_b, hie, e1, hu0, lenc, e2, e3, f1, f2, bn_addT, h1, h2, show l.length + r.length ≤ LINE from by omega]
        · by_cases hw1 : w = 1
          · subst hw1
            simp only [show ((1 : Nat) : Int) = 1 from rfl] at e3
            obtain ⟨v, S4, e4, hv, hB4⟩ := take_c (k + 1) 5 (by omega) (by omega) hB3
            have nm := near_mid l r a v ks ks 1 (by omega) (by omega)
            refine ⟨l ++ .nd v ks :: r, S4, ?_, hB4, nm.1, nm.2, (labs_app _ _).mpr ⟨hl1, ⟨⟨by omega, by omega⟩, hlk⟩, hlr⟩⟩
            have ee : encs (l ++ .nd v ks :: r) = encs l ++ (.tup [.int v, .tup (encs ks)] :: encs r) := by rw [encs_app]; simp [encs, enc]
            show _ = R.ok (D.tup (encs _)) _
            rw [ee]
            simp only [List.length_append, List.length_cons] at e2; push_cast at e2
            simp [s__law_near, s__law_near_b, hie, e1, hu0, lenc, e2, e3, f1, f2, f3, e4, enc, bn_addT, h1, h2, show l.length + 1 ≤ LINE from by omega, show l.length + (1 + r.length) ≤ LINE from by omega, show l.length + 1 + r.length ≤ LINE from by omega, show l.length + (r.length + 1) ≤ LINE from by omega]
          · have hd2 := dps_mem (t := .nd a ks) (ts := l ++ .nd a ks :: r) (by simp)
            have hz2 := szs_mem (t := .nd a ks) (ts := l ++ .nd a ks :: r) (by simp)
            simp only [dp, sz] at hd2 hz2
            obtain ⟨ks', S4, e4, hB4, z1, z2, z3⟩ := ih ks S3 hB3 (by omega) (by omega) hlk
            have nm := near_mid l r a a ks ks' 1 (by omega) (by omega)
            refine ⟨l ++ .nd a ks' :: r, S4, ?_, hB4, nm.1, nm.2, (labs_app _ _).mpr ⟨hl1, ⟨hla, z3⟩, hlr⟩⟩
            have ee : encs (l ++ .nd a ks' :: r) = encs l ++ (.tup [.int a, .tup (encs ks')] :: encs r) := by rw [encs_app]; simp [encs, enc]
            show _ = R.ok (D.tup (encs _)) _
            rw [ee]
            have e4' : callN g (k + 2) "_law_near" [.ref 0, .tup (encs ks)] S3 = .ok (.tup (encs ks')) S4 := e4
            have w1 : ((w : Int) == 1) = false := by simp; omega
            simp only [List.length_append, List.length_cons] at e2; push_cast at e2
            simp [s__law_near, s__law_near_b, hie, e1, hu0, hw0, hw1, w1, lenc, e2, e3, f1, f2, f3, e4', enc, bn_addT, h1, h2, show l.length + 1 ≤ LINE from by omega, show l.length + (1 + r.length) ≤ LINE from by omega, show l.length + 1 + r.length ≤ LINE from by omega, show l.length + (r.length + 1) ≤ LINE from by omega]
end K01
set_option maxHeartbeats 8000000
namespace K01
open PySem Lw
/-! ### all documents of at most three trees -/
def labB : Nat → D → Option Tr
  | 0, _ => none
  | n + 1, .tup [.int a, .tup ks] => ((ks.mapM (labB n)).map fun l => Tr.nd a l)
  | _, _ => none
def allD : List D := match callN md.g 3 "_law_all" [.lst [.int 1, .int 3], .int 3] [] with
  | .ok (.lst ds) _ => ds
  | _ => []
def docB : D → List Tr
  | .tup ks => (ks.mapM (labB 9)).getD []
  | _ => []
def allT : List (List Tr) := allD.map docB
theorem all_doc : allD = allT.map doc := by kernel_rfl
theorem all_len : allT.length = 51 := by kernel_rfl
theorem all_ok (k : Nat) (S : Sto) : callN g (k + 1) "_law_all" [.lst [.int 1, .int 3], .int 3] S = .ok (.lst allD) S := by kernel_rfl
mutual
def lokT : Tr → Bool
  | .nd a ks => decide (0 ≤ a) && decide (a ≤ 4) && loks ks
def loks : List Tr → Bool
  | [] => true
  | t :: ts => lokT t && loks ts
end
mutual
theorem lokT_ok : ∀ t : Tr, lokT t = true → lab t
  | .nd a ks, h => by
    simp only [lokT, Bool.and_eq_true, decide_eq_true_eq] at h
    exact ⟨h.1, loks_ok ks h.2⟩
theorem loks_ok : ∀ ts : List Tr, loks ts = true → labs ts
  | [], _ => trivial
  | t :: ts, h => by
    simp only [loks, Bool.and_eq_true] at h
    exact ⟨lokT_ok t h.1, loks_ok ts h.2⟩
end
def fine (ts : List Tr) : Bool := loks ts && decide (dps ts ≤ 3) && decide (szs ts ≤ 3)
theorem all_fine : allT.all fine = true := by kernel_rfl
def due (i j : Nat) : Int := if i = j then 0 else if i < j then -1 else 1
def orderB : Bool := (List.range 51).all fun i => (List.range 51).all fun j => decide (cmps (allT.getD i []) (allT.getD j []) = due i j)
theorem all_order : orderB = true := by kernel_rfl
end K01
set_option maxHeartbeats 8000000
namespace K01
open PySem Lw
theorem compL_ints {step : D → Sto → R (Option D)} {S : Sto} {f : Int → Int} : ∀ (ns : List Int) (acc : List D), (∀ n : Int, step (.int n) S = .ok (some (.int (f n))) S) → compL step (ns.map D.int) acc S = .ok (acc ++ (ns.map f).map D.int) S
  | [], acc, _ => by simp [compL]
  | n :: ns, acc, h => by simp [compL, h n, compL_ints (f := f) ns (acc ++ [.int (f n)]) h]
theorem box_ok (k : Nat) (ns : List Int) (hl : ns.length ≤ 63) : ∃ S, callN g (k + 1) "_law_box" [.lst (ns.map D.int)] [] = .ok (.ref 0) S ∧ Box S := by
  refine ⟨[.lst [.int 0, .int 0, .int 0, .lst ((ns.map fun n => if n < 0 then -n else n).map D.int)]], ?_, _, _, _, _, rfl, by omega⟩
  rw [c__law_box]
  have step : ∀ n : Int, s__law_box_c1 (callN g k) [.val (.lst (ns.map D.int)), .un] (.int n) [] = .ok (some (.int (if n < 0 then -n else n))) [] := fun n => by
    simp [s__law_box_c1, s__law_box_c1_t, s__law_box_c1_e]
  have q := compL_ints (f := fun n => if n < 0 then -n else n) ns [] step
  simp [s__law_box, s__law_box_b, show ns.length ≤ LINE from by unfold LINE; omega, q, show 4 ≤ LINE from by decide]
theorem number_ok (k : Nat) (i : Int) (S : Sto) : callN g (k + 1) "_law_is_number" [.int i] S = .ok (.bl true) S := by
  rw [c__law_is_number]
  simp [s__law_is_number, s__law_is_number_b]
/-- a document that is as it should be -/
structure Good (ts : List Tr) : Prop where
  sz : szs ts ≤ 9
  dp : dps ts ≤ 5
  lb : labs ts
theorem every_step (d : List Tr) (G : Good d) (a b c x e f h i : Sl) (S : Sto) : s_law_l1 (callN g 39) (doc d) [a, b, c, x, e, f, h, i, .un] S = .nx [a, b, c, x, .val (doc d), f, h, i, .un] S := by
  have q1 : callN g 39 "size" [doc d] S = .ok (.int (szs d)) S := size_ok 34 d S (by have := G.dp; omega) (by have := G.dp; omega) (by have := G.sz; omega) G.lb
  have q2 : callN g 39 "_law_size" [doc d] S = .ok (.int (szs d)) S := law_size_ok 38 d S (by have := G.dp; omega) (by have := G.sz; omega)
  have q3 : callN g 39 "before" [doc d, doc d] S = .ok (.int (cmps d d)) S := before_ok 34 d d S (by have := G.dp; omega) (by have := G.dp; omega) (by have := G.dp; omega) (by have := G.dp; omega) (by have := G.sz; omega) (by have := G.sz; omega) G.lb G.lb
  rw [cmps_self] at q3
  have q4 : callN g 39 "_law_is_number" [.int (szs d)] S = .ok (.bl true) S := number_ok 38 _ S
  simp [s_law_l1, s_law_l1_b, q1, q2, q3, q4]
theorem allT_good {i : Nat} (h : i < 51) : Good (allT.getD i []) := by
  have hi : i < allT.length := by rw [all_len]; exact h
  have q := List.all_eq_true.mp all_fine (allT.getD i []) (by rw [List.getD_eq_getElem?_getD, List.getElem?_eq_getElem hi]; exact List.getElem_mem hi)
  simp only [fine, Bool.and_eq_true, decide_eq_true_eq] at q
  exact ⟨by omega, by omega, loks_ok _ q.1.1⟩
theorem allT_item {i : Nat} (h : i < 51) : itemD (.lst allD) (.int (i : Int)) = some (doc (allT.getD i [])) := by
  have hi : i < allT.length := by rw [all_len]; exact h
  refine itl_nat ?_
  rw [all_doc, List.getElem?_map, List.getD_eq_getElem?_getD, List.getElem?_eq_getElem hi]
  rfl
theorem allT_order {i j : Nat} (hi : i < 51) (hj : j < 51) : cmps (allT.getD i []) (allT.getD j []) = due i j := by
  have q := List.all_eq_true.mp (List.all_eq_true.mp all_order i (List.mem_range.mpr hi)) j (List.mem_range.mpr hj)
  exact of_decide_eq_true q
theorem allD_len : allD.length = 51 := by rw [all_doc, List.length_map, all_len]
/-- the last part -/
theorem law_ok (ns : List Int) (hl : ns.length ≤ 63) : ∃ S, callN md.g 40 "law" [.lst (ns.map D.int)] [] = .ok (.bl true) S := by
  obtain ⟨S0, e0, B0⟩ := box_ok 38 ns hl
  obtain ⟨d, S1, e1, B1, d1, d2, d3⟩ := document_ok 36 8 4 S0 (by omega) (by omega) (by omega) B0
  obtain ⟨e, S2, e2, B2, f1, f2, f3⟩ := document_ok 36 8 4 S1 (by omega) (by omega) (by omega) B1
  obtain ⟨u, S3, e3, hu, B3⟩ := take_c 38 2 (by omega) (by omega) B2
  have G1 : Good d := ⟨by omega, by omega, d3⟩
  -- the second document
  have second : ∃ e' S4, Good e' ∧ Box S4 ∧ (if (u : Int) == 0 then callN g 39 "_law_near" [.ref 0, doc d] S3 = .ok (doc e') S4 else e' = e ∧ S4 = S3) := by
    by_cases hu0 : (u : Int) == 0
    · obtain ⟨e', S4, q, B4, g1, g2, g3⟩ := near_ok 37 d S3 B3 (by omega) (by omega) d3
      exact ⟨e', S4, ⟨by omega, by omega, g3⟩, B4, by rw [if_pos hu0]; exact q⟩
    · exact ⟨e, S3, ⟨by omega, by omega, f3⟩, B3, by rw [if_neg hu0]; exact ⟨rfl, rfl⟩⟩
  obtain ⟨e', S4, G2, B4, hsec⟩ := second
  have o1 : callN g 39 "_law_order" [doc d, doc e'] S4 = .ok (.int (cmps d e')) S4 := order_ok 37 d e' S4 (by have := G1.dp; omega) (by have := G2.dp; omega) (by have := G1.sz; omega) (by have := G2.sz; omega)
  have b1 : callN g 39 "before" [doc d, doc e'] S4 = .ok (.int (cmps d e')) S4 := before_ok 34 d e' S4 (by have := G1.dp; omega) (by have := G2.dp; omega) (by have := G1.dp; omega) (by have := G2.dp; omega) (by have := G1.sz; omega) (by have := G2.sz; omega) G1.lb G2.lb
  have b2 : callN g 39 "before" [doc e', doc d] S4 = .ok (.int (cmps e' d)) S4 := before_ok 34 e' d S4 (by have := G2.dp; omega) (by have := G1.dp; omega) (by have := G2.dp; omega) (by have := G1.dp; omega) (by have := G2.sz; omega) (by have := G1.sz; omega) G2.lb G1.lb
  have n1 : callN g 39 "_law_is_number" [.int (cmps d e')] S4 = .ok (.bl true) S4 := number_ok 38 _ S4
  rw [cmps_neg] at b2
  have eqv : ∃ t : Bool, cmpD .Eq (doc d) (doc e') = some t ∧ (cmps d e' == 0) = t := by
    classical
    have z := doc_eqv d e' (by have := G1.dp; omega) (by have := G2.dp; omega)
    refine ⟨decide (d = e'), by rw [cp_eqD, z], ?_⟩
    have w := cmps_eq d e'
    by_cases h : d = e'
    · rw [decide_eq_true h]; simp [w.mpr h]
    · rw [decide_eq_false h]
      cases q : (cmps d e' == 0) with
      | false => rfl
      | true => exact absurd (w.mp (by simpa using q)) h
  obtain ⟨t, et, ht⟩ := eqv
  have a1 : callN g 39 "_law_all" [.lst [.int 1, .int 3], .int 3] S4 = .ok (.lst allD) S4 := all_ok 38 S4
  obtain ⟨i, S5, e5, hi, B5⟩ := take_c 38 51 (by omega) (by omega) B4
  obtain ⟨j, S6, e6, hj, B6⟩ := take_c 38 51 (by omega) (by omega) B5
  have hi' : i < 51 := by omega
  have hj' : j < 51 := by omega
  have b3 : callN g 39 "before" [doc (allT.getD i []), doc (allT.getD j [])] S6 = .ok (.int (due i j)) S6 := by
    have G3 := allT_good hi'
    have G4 := allT_good hj'
    rw [← allT_order hi' hj']
    exact before_ok 34 _ _ S6 (by have := G3.dp; omega) (by have := G4.dp; omega) (by have := G3.dp; omega) (by have := G4.dp; omega) (by have := G3.sz; omega) (by have := G4.sz; omega) G3.lb G4.lb
  have i1 := allT_item hi'
  have i2 := allT_item hj'
  have hlen := allD_len
  generalize allT.getD i [] = x at *
  generalize allT.getD j [] = y at *
  refine ⟨S6, ?_⟩
  rw [c_law 39]
  have e1 : callN g 39 "_law_document" [.ref 0, .lst menu, .int 8, .int 4] S0 = .ok (doc d) S1 := e1
  have e2 : callN g 39 "_law_document" [.ref 0, .lst menu, .int 8, .int 4] S1 = .ok (doc e) S2 := e2
  have e3 : callN g 39 "_law_take" [.ref 0, .int 2] S2 = .ok (.int (u : Int)) S3 := e3
  have e5 : callN g 39 "_law_take" [.ref 0, .int 51] S4 = .ok (.int (i : Int)) S5 := e5
  have e6 : callN g 39 "_law_take" [.ref 0, .int 51] S5 = .ok (.int (j : Int)) S6 := e6
  have v1 := every_step d G1
  have v2 := every_step e' G2
  have hdue : (if (i : Int) = j then (.ok (.int 0) S6 : R D) else if i < j then .ok (.int (-1)) S6 else .ok (.int 1) S6) = .ok (.int (due i j)) S6 := by
    unfold due
    by_cases h1 : i = j
    · simp [h1]
    · have h2 : ¬ ((i : Int) = j) := by omega
      rw [if_neg h2, if_neg h1]
      by_cases h3 : i < j
      · simp [h3]
      · simp [h3]
  by_cases hu0 : (u : Int) == 0
  · rw [if_pos hu0] at hsec
    have hu1 : u = 0 := by simpa using hu0
    subst hu1
    simp only [show ((0 : Nat) : Int) = 0 from rfl] at e3
    simp [s_law, s_law_b, e0, e1, e2, e3, hsec, forL, v1, v2, o1, b1, n1, b2, et, ht, a1, hlen, e5, e6, i1, i2, b3, hdue]
  · rw [if_neg hu0] at hsec
    obtain ⟨rfl, rfl⟩ := hsec
    have hu1 : ¬ u = 0 := by simpa using hu0
    simp [s_law, s_law_b, e0, e1, e2, e3, hu1, forL, v1, v2, o1, b1, n1, b2, et, ht, a1, hlen, e5, e6, i1, i2, b3, hdue]
end K01
theorem PySem.Challenge.cw_leafward_k01_sizes_and_order_holds : PySem.Challenge.rw_leafward_k01_sizes_and_order.Holds := by
  exact K01.holds_of 40 ⟨rfl, by decide, by decide⟩ K01.law_ok
