import PyProof.Rows.All
import Wide.All
import OpenK.AllK
import Wide.FinOn
import HandS.HeadHook4
import HandS.Head0
import HandS.Head1
import HandS.Head2
import HandS.Words
import HandS.Head3
import HandS.ForMost
import KE.SortData
import HandS.TupLe
import KE.KDictKeyed
import KE.KeyNested
import HandS.ForExc
import HandS.TupAny
import HandS.IsInst
import HandS.Zip
import HandS.HeadHook1
import HandS.SortInts
import HandS.Dict
import HandS.Style
import HandS.Deep
import HandS.More
import HandS.RaiseMore
import HandS.TupMul
import HandS.Conv
import HandS.HotCalls
import HandS.ExcIs
import KE.KExcPX
import KE.GoesRaise
import KE.GoesComp
import KE.GoesEnum
import HandS.DictComp
import KE.KDictDisplayH
import PyProof.DictStraight
import HandS.TupSets
import HandS.Defaults
import KE.KExcStr
import HandS.WordsExc
import HandS.HeadHook2
import HandS.HeadEnd
import HandS.Codes
import KE.IntTextLaws
import PySem.Challenge.RW_leafward_k29_texts_of_schemas
set_option Elab.async false
set_option linter.all false
set_option maxRecDepth 100000
set_option maxHeartbeats 4000000
namespace Lw
open PySem PySem.Spec PyProof.Rows L2
/-! LwA0: a module as data; ahead of all else, so that the head's run stands early in a joined file. -/
/-- a def of the text: its statement, parameters, slots, whether its display goes to the store -/
structure Df where
  st : Stmt
  ps : List Str
  N : List Str
  boxy : Bool := false
  gc : Bool := false
structure Md where
  defs : List (Str × Df)
  cons : List (Str × Int)
  excs : List Str
  bis : List Str
  /-- the classes of exceptions and what stands above them; the def that tells them -/
  bases : List (Str × Str) := []
  tells : Option Str := none
  /-- how far the Hook looks -/
  deep : Nat := 4
  /-- methods: the class, the name, the def's own name, the def; fields by class; classes that are called -/
  mets : List (Str × Str × Str × Df) := []
  cflds : List (Str × Str) := []
  clss : List Str := []
def isSub (bs : List (Str × Str)) : Nat → Str → Str → Bool
  | 0, _, _ => false
  | n + 1, c, x => decide (c = x) || (match bs.lookup c with
    | some b => isSub bs n b x
    | none => false)
def dD (d : Str × Df) : He.DefD := ⟨(d.1, none), d.1, d.1, defArgs d.2.st, defBody d.2.st, defScope d.2.st, [], []⟩
def dM (t : Str × Str × Str × Df) : He.DefD := ⟨(t.1, some t.2.1), t.2.1, t.2.2.1, defArgs t.2.2.2.st, defBody t.2.2.2.st, defScope t.2.2.2.st, [], []⟩
def Md.fn (m : Md) : List He.DefD := m.defs.map dD ++ m.mets.map dM
def Md.faC (m : Md) : List He.Fa := m.clss.map .glo ++ (m.clss.map .mkr ++ (m.mets.map (fun t => .cls t.1) ++ (m.mets.map (fun t => .meth t.1 t.2.1) ++ (m.cflds.map (fun t => .cls t.1) ++ m.cflds.map fun t => .noat t.1 t.2))))
def Md.fa0 (m : Md) : List He.Fa := m.defs.map (fun d => .glo d.1) ++ (m.cons.map (fun c => .int c.1 c.2) ++ (m.excs.map .glo ++ (m.excs.map .exc ++ m.bis.map .free)))
def Md.fa (m : Md) : List He.Fa := m.fa0 ++ m.faC
/-- no list lies there -/
def noList (K : PySem.W.Frag) : Bool := K.all fun p => match p.2.cls with
  | .type c => !(decide (c = "list"))
  | _ => true
/-- what the classes of exceptions must say -/
def excB (K : PySem.W.Frag) (D : Addr) : Bool := He.eqO (PySem.W.findIn K (.ref D) "__getattribute__") (some (some (.builtin "BaseException.__getattribute__"))) && (He.eqO (PySem.W.findIn K (.ref D) "__getattr__") (some none) && (decide (PySem.W.subIn K (.ref D) (.type "BaseException") = some true) &&
  (PySem.W.hasDictIn K D && (He.eqO (PySem.W.findIn K (.ref D) "__class__") (some (some (.builtin "object.__class__"))) && (He.eqO (PySem.W.specialIn K (.builtin "object.__class__") "__get__") (some (some (.builtin "getset_descriptor.__get__"))) &&
  (decide (PySem.W.takesIn K (.builtin "object.__class__") = some true) && (decide (PySem.W.mroIn K D (.type "object") = some true) && (decide (PySem.W.kitOne K (.ref D) (.type "ValueError") = some true) && He.eqO (PySem.W.findIn K (.ref D) "__str__") (some (some (.builtin "BaseException.__str__")))))))))))
def Md.excsB (m : Md) (K : PySem.W.Frag) : Bool := m.excs.all fun c => excB K (He.ga K c) && m.excs.all fun x => decide (PySem.W.exmOne K (.ref (He.ga K c)) (.ref (He.ga K x)) = some (isSub m.bases 8 c x)) && decide (PySem.W.kitOne K (.ref (He.ga K c)) (.ref (He.ga K x)) = some (isSub m.bases 8 c x))
def Md.more (m : Md) (K : PySem.W.Frag) : Bool := noList K && (if m.tells.isSome then m.excsB K else true)
/-- the head's Hook -/
abbrev Md.hk (m : Md) : PySem.W.Hook := He.hookX m.deep m.fa m.fn [] [] m.more
def Md.ob (m : Md) (s : PySem.W.SharedT) : He.AlX := He.obsX m.deep m.fa m.fn [] [] m.more (HandSHeadRun.getT s)
end Lw
set_option maxHeartbeats 0
namespace K29
open PySem PySem.Spec PyProof.Rows L2 Lw
def top (i : Nat) : Stmt := PySem.Challenge.pw_leafward_k29_texts_of_schemas.main.body.getD i (.Pass ⟨0, 0, 0, 0⟩)
def d_is_whole : Df := { st := top 8, ps := ["x"], N := ["x"] }
def d_is_within : Df := { st := top 9, ps := ["x", "low", "high"], N := ["x", "low", "high"] }
def d_are_rules : Df := { st := top 14, ps := ["rules", "many"], N := ["rules", "many", "before", "rule"] }
def d_is_schema : Df := { st := top 15, ps := ["s"], N := ["s", "many", "state"] }
def d_check_schema : Df := { st := top 16, ps := ["s"], N := ["s"] }
def d_schema_text : Df := { st := top 19, ps := ["s"], N := ["s", "lines", "q", "line", "ends", "rules", "a", "x", "y"] }
def d_written_schema : Df := { st := top 20, ps := ["s"], N := ["s"] }
def d_number_in : Df := { st := top 21, ps := ["text"], N := ["text", "sign"] }
def d_rule_in : Df := { st := top 22, ps := ["text"], N := ["text", "parts", "part"] }
def d_state_in : Df := { st := top 23, ps := ["line"], N := ["line", "parts", "ends", "part"] }
def d_read_schema : Df := { st := top 24, ps := ["text"], N := ["text", "lines", "found", "line"] }
def d__law_box : Df := { st := top 26, ps := ["_law_script"], N := ["_law_script", "_law_x"], boxy := true }
def d__law_take : Df := { st := top 27, ps := ["_law_box_here", "_law_m"], N := ["_law_box_here", "_law_m", "_law_at", "_law_cell", "_law_told_here"] }
def d__law_pick : Df := { st := top 28, ps := ["_law_box_here", "_law_menu"], N := ["_law_box_here", "_law_menu"] }
def d__law_label : Df := { st := top 29, ps := ["_law_box_here"], N := ["_law_box_here"] }
def d__law_document : Df := { st := top 30, ps := ["_law_box_here", "_law_levels"], N := ["_law_box_here", "_law_levels", "_law_trees", "_law_k", "_law_kids"] }
def d__law_schema : Df := { st := top 31, ps := ["_law_box_here", "_law_most"], N := ["_law_box_here", "_law_most", "_law_many", "_law_states", "_law_q", "_law_rules", "_law_k", "_law_rule_here"] }
def d__law_wide : Df := { st := top 32, ps := ["_law_box_here"], N := ["_law_box_here", "_law_many", "_law_states", "_law_q", "_law_rules", "_law_k"] }
def d__law_text : Df := { st := top 33, ps := ["_law_s"], N := ["_law_s", "_law_lines", "_law_q", "_law_line", "_law_a", "_law_x", "_law_y"] }
def d__law_number : Df := { st := top 34, ps := ["_law_text_here", "_law_most"], N := ["_law_text_here", "_law_most", "_law_n"] }
def d__law_rule : Df := { st := top 35, ps := ["_law_text_here", "_law_many"], N := ["_law_text_here", "_law_many", "_law_parts", "_law_rule_here"] }
def d__law_read : Df := { st := top 36, ps := ["_law_text_here"], N := ["_law_text_here", "_law_lines", "_law_states", "_law_line", "_law_s", "_law_parts", "_law_ends", "_law_rules", "_law_part", "_law_k"] }
def d__law_class : Df := { st := top 37, ps := ["_law_e"], N := ["_law_e", "_law_kinds"] }
def d__law_told : Df := { st := top 38, ps := ["_law_way", "_law_x"], N := ["_law_way", "_law_x", "_law_e"] }
def d__law_agrees : Df := { st := top 39, ps := ["_law_text_here"], N := ["_law_text_here", "_law_due"] }
def d__law_spoilt : Df := { st := top 40, ps := ["_law_box_here", "_law_text_here"], N := ["_law_box_here", "_law_text_here", "_law_at", "_law_sign", "_law_sort", "_law_lines"] }
def d_law : Df := { st := top 41, ps := ["_law_script"], N := ["_law_script", "_law_box_here", "_law_turn", "_law_long", "_law_s", "_law_shown", "_law_text_here", "_law_k", "_law_bad", "_law_spoilt_here", "_law_q"] }
def dfs0 : List (Str × Df) := [("is_whole", d_is_whole), ("is_within", d_is_within), ("are_rules", d_are_rules), ("is_schema", d_is_schema), ("check_schema", d_check_schema), ("schema_text", d_schema_text), ("written_schema", d_written_schema), ("number_in", d_number_in), ("rule_in", d_rule_in), ("state_in", d_state_in), ("read_schema", d_read_schema), ("_law_box", d__law_box)]
def dfs1 : List (Str × Df) := [("_law_take", d__law_take), ("_law_pick", d__law_pick), ("_law_label", d__law_label), ("_law_document", d__law_document), ("_law_schema", d__law_schema), ("_law_wide", d__law_wide), ("_law_text", d__law_text), ("_law_number", d__law_number), ("_law_rule", d__law_rule), ("_law_read", d__law_read), ("_law_class", d__law_class), ("_law_told", d__law_told)]
def dfs2 : List (Str × Df) := [("_law_agrees", d__law_agrees), ("_law_spoilt", d__law_spoilt), ("law", d_law)]
def md : Md where
  defs := dfs0 ++ dfs1 ++ dfs2
  cons := [("LABELS", 5), ("MOST_STATES", 60), ("MOST_RULES", 2000), ("MOST_FIGURES", 2)]
  excs := ["LeafwardError", "BadDocument", "BadSchema", "BadTransformation", "BadText", "TooMuch"]
  bis := ["ValueError", "abs", "bool", "enumerate", "int", "isinstance", "len", "range", "repr", "set", "sorted", "str", "tuple"]
  bases := [("LeafwardError", "ValueError"), ("BadDocument", "LeafwardError"), ("BadSchema", "LeafwardError"), ("BadTransformation", "LeafwardError"), ("BadText", "LeafwardError"), ("TooMuch", "LeafwardError")]
  tells := some "_law_class"
def loose0 : List Str := ["is_whole", "is_within", "are_rules", "is_schema", "check_schema", "schema_text", "written_schema", "number_in", "rule_in", "state_in", "read_schema", "_law_box", "_law_take", "_law_pick", "_law_label", "_law_document", "_law_schema", "_law_wide", "_law_text", "_law_number", "_law_rule", "_law_read", "_law_class", "_law_told", "_law_agrees", "_law_spoilt", "LeafwardError", "BadDocument", "BadSchema", "BadTransformation"]
def loose1 : List Str := ["BadText", "TooMuch", "LABELS", "MOST_STATES", "MOST_RULES", "MOST_FIGURES"]
def loose : List Str := loose0 ++ loose1
end K29
set_option maxHeartbeats 0
namespace K29
open PySem PySem.Spec PyProof.Rows L2 Lw
abbrev theRow : PySem.W.OpenRow := PySem.W.OpenLaw.row PySem.Challenge.rw_leafward_k29_texts_of_schemas
theorem top_run (w : World) : HandSHeadRun.RunEq theRow (PySem.W.view theRow.prog [41]) md.hk md.ob 4000 loose w := by
  intro os
  kernel_rfl
end K29
/-! LwA: data, stores, and an evaluator of the text's own trees, in plain Lean (no heap). -/
namespace Lw
open PySem

/-- data: numbers, texts, tuples; lists that nobody changes any more; a thing in the store -/
inductive D where
  | non | bl (b : Bool) | int (i : Int) | str (x : Str) | tup (ds : List D) | lst (ds : List D) | ref (i : Nat) | dic (ks : List Int) | dct (kvs : List (D × D)) | fn (x : Str)
  deriving Inhabited
/-- what the store holds -/
inductive MO where
  | lst (ds : List D) | dic (kvs : List (D × D)) | ins (c : Str) (fs : List (Str × D))
  deriving Inhabited
abbrev Sto := List MO
/-- a name's slot: nothing, data, a list of the frame's own that is still changed -/
inductive Sl where
  | un | val (d : D) | own (ds : List D)
  deriving Inhabited
abbrev Ev := List Sl
inductive R (α : Type) where
  | ok (a : α) (S : Sto) | err (c : Str) (S : Sto) | bad
def R.bind {α β : Type} (r : R α) (f : α → Sto → R β) : R β := match r with
  | .ok a S => f a S
  | .err c S => .err c S
  | .bad => .bad
/-- an error is not followed (within a comprehension) -/
def R.noe {α : Type} (r : R α) : R α := match r with
  | .err _ _ => .bad
  | r => r
def R.opt {α : Type} (o : Option α) (S : Sto) : R α := match o with
  | some a => .ok a S
  | none => .bad
/-- how a statement ends -/
inductive O where
  | nx (ρ : Ev) (S : Sto) | ret (d : D) (S : Sto) | brk (ρ : Ev) (S : Sto) | cnt (ρ : Ev) (S : Sto) | err (c : Str) (ρ : Ev) (S : Sto) | bad
def R.run {α : Type} (r : R α) (ρ : Ev) (f : α → Sto → O) : O := match r with
  | .ok a S => f a S
  | .err c S => .err c ρ S
  | .bad => .bad
def O.seq (o : O) (f : Ev → Sto → O) : O := match o with
  | .nx ρ S => f ρ S
  | o => o

abbrev LINE : Nat := 16777216

/-! ### what data are to Python's == -/
mutual
def D.py : D → PyData
  | .non => .none | .bl b => .bool b | .int i => .int i | .str x => .str x | .tup ds => .tuple (D.pys ds) | .lst ds => .list (D.pys ds) | .ref _ => .dict [] | .dic _ => .dict [] | .dct _ => .dict [] | .fn _ => .dict []
def D.pys : List D → List PyData
  | [] => []
  | d :: ds => d.py :: D.pys ds
end
mutual
def D.plain : D → Bool
  | .tup ds => D.plains ds | .lst ds => D.plains ds | .ref _ => false | .dic _ => false | .dct _ => false | .fn _ => false | _ => true
def D.plains : List D → Bool
  | [] => true
  | d :: ds => d.plain && D.plains ds
end
def D.eqv (a b : D) : Option Bool := if a.plain && b.plain && SeqAt.shaped a.py && SeqAt.shaped b.py then some (PyData.eqv a.py b.py)
  else if a.plain && b.plain && (a.py.canLay0 && b.py.canLay0) && decide (min a.py.depth b.py.depth ≤ 64) then some (PyData.eqv a.py b.py) else none

/-- a list of the store is seen as a list -/
def view (S : Sto) : D → D
  | .ref i => match S[i]? with
    | some (.lst ds) => .lst ds
    | some (.dic kvs) => .dct kvs
    | some (.ins _ _) => .ref i
    | none => .ref i
  | d => d

/-! ### a dict's keys -/
mutual
def nk : D → Option NestedKey
  | .non => some .none | .int i => some (.num i) | .str x => some (.text x) | .tup ds => (nks ds).map .tup | _ => none
def nks : List D → Option (List NestedKey)
  | [] => some []
  | d :: ds => (nk d).bind fun k => (nks ds).map fun ks => k :: ks
end
/-- a tuple that may be a key -/
def keyD : D → Option NestedKey
  | .tup ds => (match nk (.tup ds) with
    | some k => if k.depth ≤ 8 then some k else none
    | none => none)
  | _ => none
def getKV (kvs : List (D × D)) (k : NestedKey) : Option D := (kvs.find? fun p => decide (nk p.1 = some k)).map (·.2)
def putKV (kvs : List (D × D)) (k : NestedKey) (d v : D) : List (D × D) := if (kvs.any fun p => decide (nk p.1 = some k)) then kvs.map (fun p => if nk p.1 = some k then (p.1, v) else p) else kvs ++ [(d, v)]
/-! no thing of the store from n on is in it -/
mutual
def D.under (n : Nat) : D → Bool
  | .ref i => decide (i < n) | .tup ds => D.unders n ds | .lst ds => D.unders n ds | .dct _ => false | _ => true
def D.unders (n : Nat) : List D → Bool
  | [] => true
  | d :: ds => d.under n && D.unders n ds
end
def underP (n : Nat) : List (D × D) → Bool
  | [] => true
  | p :: ps => p.1.under n && p.2.under n && underP n ps
def underF (n : Nat) : List (Str × D) → Bool
  | [] => true
  | p :: ps => p.2.under n && underF n ps
def MO.under (n : Nat) : MO → Bool
  | .lst ds => D.unders n ds
  | .dic kvs => underP n kvs
  | .ins _ fs => underF n fs
/-- a call's own things are forgotten where nothing leads to them -/
def gcR (n : Nat) : R D → R D
  | .ok d S => if d.under n && (S.take n).all (MO.under n) then .ok d (S.take n) else .ok d S
  | .err c S => if (S.take n).all (MO.under n) then .err c (S.take n) else .err c S
  | .bad => .bad

/-! ### operators -/
def strMul (x : Str) (n : Nat) : Str := ⟨(List.replicate n x.cps.toList).flatten.toArray⟩
def inR64 (i : Int) : Bool := decide (-(2 ^ 64) < i ∧ i < 2 ^ 64)
def binD : Operator → D → D → Option D
  | .Add, .int i, .int j => some (.int (i + j))
  | .Add, .str x, .str y => if x.length + y.length ≤ LINE then some (.str (x ++ y)) else none
  | .Add, .tup a, .tup b => if a.length + b.length ≤ LINE then some (.tup (a ++ b)) else none
  | .Add, .lst a, .lst b => if a.length + b.length ≤ LINE then some (.lst (a ++ b)) else none
  | .Sub, .int i, .int j => some (.int (i - j))
  | .Mult, .int i, .int j => if inR64 i || inR64 j then some (.int (i * j)) else none
  | .Mult, .str x, .int k => if -1000 ≤ k ∧ k ≤ 1000 ∧ x.length ≤ 1000 then some (.str (strMul x k.toNat)) else none
  | .Mult, .tup ds, .int k => if -1000 ≤ k ∧ k ≤ 1000 ∧ ds.length ≤ 1000 then some (.tup (List.replicate k.toNat ds).flatten) else none
  | .FloorDiv, .int i, .int j => if 0 < j ∧ j < 1073741824 then some (.int (i / j)) else none
  | .Mod, .int i, .int j => if 0 < j then some (.int (i % j)) else none
  | .Pow, .int i, .int j => if 0 ≤ j ∧ j ≤ 1000000 ∧ i.natAbs < 2 ^ 64 then some (.int (i ^ j.toNat)) else none
  | _, _, _ => none
def intsOf : List D → Option (List Int)
  | [] => some []
  | .int i :: ds => (intsOf ds).map (i :: ·)
  | _ :: _ => none
/-- t <= u of tuples of whole numbers -/
def leInts (ns ms : List Int) : Bool := Ob.lexAt (fun j => decide (ns.getD j 0 = ms.getD j 0)) (fun j => decide (ns.getD j 0 ≤ ms.getD j 0)) (decide (ns.length ≤ ms.length)) 0 (min ns.length ms.length)
/-- t >= u of tuples of whole numbers -/
def geInts (ns ms : List Int) : Bool := Ob.lexAt (fun i => decide (ns.getD i 0 = ms.getD i 0)) (fun i => decide (ms.getD i 0 ≤ ns.getD i 0)) (decide (ms.length ≤ ns.length)) 0 (min ns.length ms.length)
/-- a whole number among a dict's keys -/
def inKeys : D → List Int → Option Bool
  | .int i, ks => some (ks.any fun j => decide (j = i))
  | _, _ => none
/-- a in a list, a tuple of data -/
def inD (a : D) : D → Option Bool
  | .lst ds => if a.plain && D.plains ds && SeqAt.shaped a.py && PyData.canLayAll0 (D.pys ds) then some ((D.pys ds).any fun z => PyData.eqv z a.py) else none
  | .tup ds => if a.plain && D.plains ds && SeqAt.shaped a.py && PyData.canLayAll0 (D.pys ds) then some ((D.pys ds).any fun z => PyData.eqv z a.py) else none
  | .dic ks => inKeys a ks
  | .dct kvs => (keyD a).map fun k => (getKV kvs k).isSome
  | .str z => (match a with
    | .str x => (match x.cps.toList with
      | [c] => some (decide (c ∈ z.cps.toList))
      | _ => none)
    | _ => none)
  | _ => none
/-- x is True, x is False -/
def isB (b : Bool) : D → Option Bool
  | .bl c => some (c == b)
  | .non => some false
  | .int _ => some false
  | .str _ => some false
  | .tup _ => some false
  | .lst _ => some false
  | _ => none
def cmpD : CmpOp → D → D → Option Bool
  | .Eq, a, b => D.eqv a b
  | .NotEq, a, b => (D.eqv a b).map (!·)
  | .In, a, b => inD a b
  | .NotIn, a, b => (inD a b).map (!·)
  | .Lt, .tup a, .tup b => (intsOf a).bind fun ns => (intsOf b).map fun ms => HT.lexLt ns ms
  | .LtE, .tup a, .tup b => (intsOf a).bind fun ns => (intsOf b).map fun ms => leInts ns ms
  | .GtE, .tup a, .tup b => (intsOf a).bind fun ns => (intsOf b).map fun ms => geInts ns ms
  | .Lt, .int i, .int j => some (decide (i < j))
  | .LtE, .int i, .int j => some (decide (i ≤ j))
  | .Gt, .int i, .int j => some (decide (j < i))
  | .GtE, .int i, .int j => some (decide (j ≤ i))
  | .Lt, .str x, .str y => some (decide (x.cps.toList < y.cps.toList))
  | .LtE, .str x, .str y => some (!decide (y.cps.toList < x.cps.toList))
  | .Gt, .str x, .str y => some (decide (y.cps.toList < x.cps.toList))
  | .GtE, .str x, .str y => some (!decide (x.cps.toList < y.cps.toList))
  | .Is, .ref _, .non => none
  | .Is, .fn _, .non => none
  | .Is, a, .non => some (match a with | .non => true | _ => false)
  | .IsNot, .ref _, .non => none
  | .IsNot, .fn _, .non => none
  | .IsNot, a, .non => some (match a with | .non => false | _ => true)
  | .Is, a, .bl b => isB b a
  | _, _, _ => none
def truD : D → Option Bool
  | .non => some false
  | .bl b => some b
  | .int i => some (i != 0)
  | .str x => if x.length ≤ LINE then some ((x.length : Int) != 0) else none
  | .tup ds => some (!ds.isEmpty)
  | .lst ds => some (!ds.isEmpty)
  | .ref _ => none
  | .dic _ => none
  | .dct _ => none
  | .fn _ => none
def itemD : D → D → Option D
  | .tup ds, .int i => L2.atI ds i
  | .lst ds, .int i => L2.atI ds i
  | .str z, .int i => if z.length ≤ LINE then (L2.atI z.cps.toList i).map fun c => .str ⟨#[c]⟩ else none
  | .dct kvs, d => (keyD d).bind fun k => getKV kvs k
  | _, _ => none
def cutD {α : Type} (xs : List α) (lo hi : Option Int) : List α := (xs.drop (HT.sIx xs.length 0 lo)).take (HT.sIx xs.length xs.length hi - HT.sIx xs.length 0 lo)
def sliceD : D → Option Int → Option Int → Option D
  | .tup ds, lo, hi => some (.tup (cutD ds lo hi))
  | .lst ds, lo, hi => some (.lst (cutD ds lo hi))
  | .str z, lo, hi => if z.length ≤ LINE then some (.str (L2.cutS z lo hi)) else none
  | _, _, _ => none
def revD : D → Option D
  | .tup ds => some (.tup ds.reverse)
  | .lst ds => some (.lst ds.reverse)
  | _ => none
/-- the step of x[::-1] -/
def minus1 : Option Expr → Bool
  | some (.UnaryOp .USub (.Constant (.int 1) _ _) _) => true
  | _ => false

/-! ### built-ins (their arguments seen) -/
def isiD (T : Str) : D → Option Bool
  | .ref _ => none
  | .dct _ => none
  | .fn _ => none
  | d => if T = "int" then some (match d with | .int _ => true | .bl _ => true | _ => false)
    else if T = "bool" then some (match d with | .bl _ => true | _ => false)
    else if T = "str" then some (match d with | .str _ => true | _ => false)
    else if T = "tuple" then some (match d with | .tup _ => true | _ => false)
    else none
def sumD : List D → Option Int
  | [] => some 0
  | .int i :: ds => (sumD ds).map (i + ·)
  | _ => none
/-- whole numbers alone -/
def intsD : List D → Option (List Int)
  | [] => some []
  | .int i :: ds => (intsD ds).map (i :: ·)
  | _ :: _ => none
def tupIs : List D → Option (List (List Int))
  | [] => some []
  | .tup is :: ds => (intsD is).bind fun ns => (tupIs ds).map (ns :: ·)
  | _ :: _ => none
/-- a tuple's place in the order, by its numbers below 4096 -/
def codeI : List Int → Int
  | [] => 0
  | n :: ns => n * 4096 ^ ns.length + codeI ns
def insU (k : List Int) : List (List Int) → List (List Int)
  | [] => [k]
  | x :: xs => if codeI k < codeI x then k :: x :: xs else if codeI k = codeI x then x :: xs else x :: insU k xs
def okKs (ks : List (List Int)) : Bool := decide (ks.length < 64) && decide (1 ≤ (ks.headD [0]).length) && ks.all fun k => decide (k.length = (ks.headD [0]).length) && k.all fun i => decide (0 ≤ i) && decide (i < 4096)
/-- sorted(set(..)) of fewer than 64 tuples of as many whole numbers -/
def setSortD : D → Option D
  | .lst ds => (match tupIs ds with
    | some ks => if okKs ks then some (.lst ((ks.foldr insU []).map fun k => .tup (k.map D.int))) else none
    | none => none)
  | _ => none
/-- sorted(..): data that are compared with < -/
def sortableB (ds : List D) : Bool := (ds.all fun d => match d.py with
    | .tuple (_ :: _) => true
    | _ => false) || ds.all fun d => match d.py with
    | .none => false
    | .tuple _ => false
    | _ => true
def sortD (ds : List D) : Option (List D) :=
  if D.plains ds && (ds.all fun d => SeqAt.shaped d.py) && (ds.all fun a => ds.all fun b => PySem.W.alike a.py b.py) && sortableB ds then some (ds.mergeSort (PySem.W.dataLe false D.py)) else none
/-- repr(..) of data -/
def reprS (d : D) : Option Str := if d.plain && SeqAt.shaped d.py && d.py.showable && decide (d.py.shown.length ≤ LINE) then some d.py.shown else none
def reprD : D → Option Str
  | .non => some "None"
  | .bl b => some (if b then "True" else "False")
  | .tup ds => reprS (.tup ds)
  | .lst ds => reprS (.lst ds)
  | .str x => if (reprText x).length ≤ LINE then some (reprText x) else none
  | _ => none
def callD (f : Str) : List D → Option D
  | [d] =>
    if f = "len" then (match d with
      | .tup ds => some (.int ds.length)
      | .lst ds => some (.int ds.length)
      | .str x => if x.length ≤ LINE then some (.int x.length) else none
      | _ => none)
    else if f = "sum" then (match d with
      | .lst ds => (intsOf ds).map fun is => .int is.sum
      | _ => none)
    else if f = "tuple" then (match d with
      | .lst ds => some (.tup ds)
      | .tup ds => some (.tup ds)
      | _ => none)
    else if f = "abs" then (match d with
      | .int i => some (.int (if i < 0 then -i else i))
      | _ => none)
    else if f = "int" then (match d with
      | .int i => some (.int i)
      | .bl k => some (.int (if k then 1 else 0))
      | .str x => if x.length ≤ 640 then (intText? x).map .int else none
      | _ => none)
    else if f = "sorted" then (match d with
      | .lst ds => (sortD ds).map .lst
      | .tup ds => (sortD ds).map .lst
      | _ => none)
    else if f = "str" then (match d with
      | .int i => if i.natAbs.log2 < 1920 then some (.str (toString i)) else none
      | .str x => some (.str x)
      | _ => none)
    else if f = "list" then (match d with
      | .dic ks => some (.lst (ks.map .int))
      | .dct kvs => some (.lst (kvs.map (·.1)))
      | _ => none)
    else if f = "repr" then (reprD d).map .str
    else none
  | [.int i, .int j] =>
    if f = "max" then some (.int (if j > i then j else i))
    else if f = "min" then some (.int (if j < i then j else i))
    else none
  | _ => none

def biC (x : Str) : Bool := decide (x = "len") || decide (x = "sum") || decide (x = "tuple") || decide (x = "abs") || decide (x = "int") || decide (x = "max") || decide (x = "min") || decide (x = "sorted") || decide (x = "str") || decide (x = "list") || decide (x = "repr")
def isT (T : Str) : Bool := decide (T = "int") || decide (T = "bool") || decide (T = "str") || decide (T = "tuple")

/-! ### names -/
def kindB (sc : Scope) (x : Str) : Option NameKind := sc.names.lookup x
def visB (sc : Scope) (x : Str) : Bool := match kindB sc x with
  | some .local => true | some .cell => true | some .free => true | _ => false
def locB (sc : Scope) (x : Str) : Bool := match kindB sc x with
  | some .local => true | some .cell => true | _ => false
def glB (sc : Scope) (x : Str) : Bool := match kindB sc x with
  | some .globalImplicit => true | _ => false
def plainName (x : Str) : Bool := !(x == "__debug__") && !(x == "__classdict__") && !(x == "__name__")
def ixOf (N : List Str) (x : Str) : Nat := N.findIdx (· == x)
def getSl (ρ : Ev) (i : Nat) : Sl := ρ.getD i .un

/-- a def of the text -/
structure Fd where
  ps : List Str
  N : List Str
  body : List Stmt
  sc : Scope
  boxy : Bool := false
  gc : Bool := false
/-- the module: constants, defs, classes of exceptions -/
structure G where
  con : Str → Option D
  fn : Str → Option Fd
  exc : Str → Bool
  bi : Str → Bool
  /-- an own class under another -/
  sub : Str → Str → Option Bool := fun _ _ => none
  /-- a def that tells an exception's class: the def, the class, the word -/
  cls : Str → Str → Option D := fun _ _ => none
  /-- a class's methods, by the name of the def; these defs; classes that are called; fields that no class of theirs has -/
  mt : Str → Str → Option Str := fun _ _ => none
  mf : Str → Option Fd := fun _ => none
  cl : Str → Bool := fun _ => false
  fld : Str → Str → Bool := fun _ _ => false

def notStar : Expr → Bool
  | .Starred _ _ => false
  | _ => true
def isTup : Expr → Bool
  | .Tuple _ _ _ => true
  | _ => false
def notSet : Expr → Bool
  | .Set _ _ _ => false
  | _ => true
abbrev Call := Str → List D → Sto → R D

def nameOrC : Expr → Bool
  | .Name _ _ => true
  | .Constant _ _ _ => true
  | _ => false
def strM (x : D) (f : Str → R D) : R D := match x with
  | .str z => f z
  | _ => .bad
def splitD (a : Str) : D → Option D
  | .str b => if (b.length == 0) = false ∧ a.length + 2 ≤ LINE then some (.lst ((Txt.split a b).map D.str)) else none
  | _ => none
def strsOf : List D → Option (List Str)
  | [] => some []
  | .str z :: ds => (strsOf ds).map (z :: ·)
  | _ :: _ => none
def joinS (a : Str) (ds : List D) : Option D := (strsOf ds).bind fun ys => if (ys.map (·.length)).sum + ys.length * a.length ≤ 16777216 then some (.str (Txt.join a ys)) else none
def joinD (a : Str) : D → Option D
  | .lst ds => joinS a ds
  | .tup ds => joinS a ds
  | _ => none
/-- what an attribute's object may be -/
def baseB : Expr → Bool
  | .Call (.Name _ _) [] [] _ => false
  | _ => true
/-- an object's attribute -/
def fldD (g : G) (x : D) (f : Str) (S : Sto) : Option D := match x with
  | .ref i => (match S[i]? with
    | some (.ins c fs) => if g.fld c f then fs.lookup f else none
    | _ => none)
  | _ => none
/-- the def of an object's method -/
def methD (g : G) (x : D) (m : Str) (S : Sto) : Option Str := match x with
  | .ref i => (match S[i]? with
    | some (.ins c fs) => if (fs.lookup m).isNone then g.mt c m else none
    | _ => none)
  | _ => none
/-- an attribute is written -/
def putS (f : Str) (v : D) : List (Str × D) → List (Str × D)
  | [] => [(f, v)]
  | p :: fs => if p.1 = f then (f, v) :: fs else p :: putS f v fs
def storeF (g : G) (x : D) (f : Str) (v : D) (S : Sto) : Option Sto := match x with
  | .ref i => (match S[i]? with
    | some (.ins c fs) => if g.fld c f && decide (fs.length < 1000) then some (S.set i (.ins c (putS f v fs))) else none
    | _ => none)
  | _ => none
/-- a new object, behind its making -/
def initR (i : Nat) (d : D) (S : Sto) : R D := match d with
  | .non => .ok (.ref i) S
  | _ => .bad
/-- a list of the store gives its last -/
def popS (x : D) (S : Sto) : R D := match x with
  | .ref i => (match S[i]? with
    | some (.lst ds) => (match ds[ds.length - 1]? with
      | some d => .ok d (S.set i (.lst ds.dropLast))
      | none => .bad)
    | _ => .bad)
  | _ => .bad
/-! ### names in general position: lists of one's own that stand so are given away -/
def eatB (f : Str) : Bool := f == "len" || f == "sum" || f == "tuple" || f == "abs" || f == "int" || f == "max" || f == "min" || f == "isinstance" || f == "range" || f == "str" || f == "sorted" || f == "list" || f == "repr" || f == "set"
mutual
def gens : Nat → Expr → List Str
  | 0, _ => []
  | n + 1, e => match e with
    | .Name x _ => [x]
    | .BinOp a _ b _ => gensT n a ++ gensT n b
    | .UnaryOp _ a _ => gensT n a
    | .BoolOp _ es _ => gensTs n es
    | .IfExp c a b _ => gensT n c ++ (gens n a ++ gens n b)
    | .Compare a _ bs _ => gensT n a ++ gensTs n bs
    | .Call (.Name f _) es _ _ => if eatB f then gensTs n es else gensAll n es
    | .Call (.Attribute o _ _) es _ _ => gensT n o ++ gensAll n es
    | .Subscript a i _ => gensT n a ++ gens n i
    | .Tuple es _ _ => gensAll n es
    | .List es _ => gensAll n es
    | .ListComp elt cs _ _ => gensC n cs ++ gens n elt
    | .DictComp kx vx cs _ _ => gensC n cs ++ (gens n kx ++ gens n vx)
    | .Dict ks vs _ => (match ks, vs with
      | [some a], [b] => gens n a ++ gens n b
      | _, _ => [])
    | .Attribute a _ _ => gensT n a
    | _ => []
def gensT : Nat → Expr → List Str
  | 0, _ => []
  | n + 1, e => match e with
    | .Name _ _ => []
    | e => gens n e
def gensAll : Nat → List Expr → List Str
  | 0, _ => []
  | _ + 1, [] => []
  | n + 1, e :: es => gens n e ++ gensAll n es
def gensTs : Nat → List Expr → List Str
  | 0, _ => []
  | _ + 1, [] => []
  | n + 1, e :: es => gensT n e ++ gensTs n es
def gensC : Nat → List Comprehension → List Str
  | 0, _ => []
  | _ + 1, [] => []
  | n + 1, ⟨_, it, ifs, _⟩ :: cs => gens n it ++ (gensTs n ifs ++ gensC n cs)
end
def freezeSl : Sl → Sl
  | .own ds => .val (.lst ds)
  | s => s
def fz (ρ : Ev) (i : Nat) : Ev := ρ.set i (freezeSl (getSl ρ i))
def freeze (N : List Str) : List Str → Ev → Ev
  | [], ρ => ρ
  | x :: xs, ρ => freeze N xs (if decide (ixOf N x < N.length) then fz ρ (ixOf N x) else ρ)

/-! ### loops -/
def compL (step : D → Sto → R (Option D)) : List D → List D → Sto → R (List D)
  | [], acc, S => .ok acc S
  | d :: ds, acc, S => (step d S).bind fun o S1 => match o with
    | some y => compL step ds (acc ++ [y]) S1
    | none => compL step ds acc S1
def forL (body : D → Ev → Sto → O) : List D → Ev → Sto → O
  | [], ρ, S => .nx ρ S
  | d :: ds, ρ, S => match body d ρ S with
    | .nx ρ1 S1 => forL body ds ρ1 S1
    | .cnt ρ1 S1 => forL body ds ρ1 S1
    | .brk ρ1 S1 => .nx ρ1 S1
    | o => o
def whileL (c : Ev → Sto → R Bool) (body : Ev → Sto → O) : Nat → Ev → Sto → O
  | 0, _, _ => .bad
  | n + 1, ρ, S => (c ρ S).run ρ fun b S1 => if b then (match body ρ S1 with
    | .nx ρ2 S2 => whileL c body n ρ2 S2
    | .cnt ρ2 S2 => whileL c body n ρ2 S2
    | .brk ρ2 S2 => .nx ρ2 S2
    | o => o) else .nx ρ S1

def lcStep (fc : Ev → Sto → R Bool) (fe : Ev → Sto → R D) (S2 : Sto) : Option Ev → R (Option D)
  | none => .bad
  | some ρ1 => (fc ρ1 S2).noe.bind fun t S3 => if t then (fe ρ1 S3).bind fun y S4 => .ok (some y) S4 else .ok none S3

/-- the outer loop of two clauses: a step gives the longer list -/
def foldL2 (step : D → List D → Sto → R (List D)) : List D → List D → Sto → R (List D)
  | [], acc, S => .ok acc S
  | d :: ds, acc, S => (step d acc S).bind fun acc1 S1 => foldL2 step ds acc1 S1
def lc2Step (fc : Ev → Sto → R Bool) (fi : Ev → Sto → R (List D)) (fs : Ev → D → Sto → R (Option D)) (acc : List D) (S2 : Sto) : Option Ev → R (List D)
  | none => .bad
  | some ρ1 => (fc ρ1 S2).noe.bind fun t S3 => if t then (fi ρ1 S3).noe.bind fun ds S4 => compL (fs ρ1) ds acc S4 else .ok acc S3
/-- a dict's key -/
def keyE (r : R D) : R D := r.bind fun d S => match d with
  | .int i => .ok (.int i) S
  | _ => .bad
def keysOf : List D → List Int
  | [] => []
  | .int i :: ds => i :: keysOf ds
  | _ :: ds => keysOf ds
def putI (ks : List Int) (i : Int) : List Int := if i ∈ ks then ks else ks ++ [i]
def dedupI (ks : List Int) : List Int := ks.foldl putI []
def enumD : Nat → List D → List D
  | _, [] => []
  | k, d :: ds => .tup [.int (k : Int), d] :: enumD (k + 1) ds
def enumA (ds : List D) (S1 : Sto) : R (List D) := match ds with
  | [.tup a] => .ok (enumD 0 a) S1
  | _ => .bad

/-! ### targets -/
mutual
def asgT (N : List Str) (sc : Scope) : Nat → Expr → D → Ev → Option Ev
  | 0, _, _, _ => none
  | n + 1, e, d, ρ => match e with
    | .Name x _ => if locB sc x && decide (ixOf N x < ρ.length) then some (ρ.set (ixOf N x) (.val d)) else none
    | .Tuple es _ _ => (match d with
      | .tup ds => asgTs N sc n es ds ρ
      | _ => none)
    | _ => none
def asgTs (N : List Str) (sc : Scope) : Nat → List Expr → List D → Ev → Option Ev
  | 0, _, _, _ => none
  | n + 1, es, ds, ρ => match es, ds with
    | [], [] => some ρ
    | e :: es, d :: ds => (asgT N sc n e d ρ).bind fun ρ1 => asgTs N sc n es ds ρ1
    | _, _ => none
end
/-- the block's own names, with their places -/
def ownOf (N : List Str) (scope : Scope) : List (Str × Nat) := scope.names.filterMap fun y => match y.2 with
  | .local => if ixOf N y.1 < N.length then some (y.1, ixOf N y.1) else none
  | .cell => if ixOf N y.1 < N.length then some (y.1, ixOf N y.1) else none
  | _ => none
def wipeE (ρ : Ev) : List Nat → Ev
  | [] => ρ
  | v :: vs => (wipeE ρ vs).set v .un
mutual
def tgtIx (N : List Str) : Nat → Expr → List Nat
  | 0, _ => []
  | n + 1, e => match e with
    | .Name x _ => [ixOf N x]
    | .Tuple es _ _ => tgtIxs N n es
    | _ => []
def tgtIxs (N : List Str) : Nat → List Expr → List Nat
  | 0, _ => []
  | _ + 1, [] => []
  | n + 1, e :: es => tgtIx N n e ++ tgtIxs N n es
end
def rangeD (lo hi : Int) : Option (List D) := if -(2 ^ 62) ≤ lo ∧ lo < 2 ^ 62 ∧ -(2 ^ 62) ≤ hi ∧ hi < 2 ^ 62 ∧ (hi - lo).toNat ≤ LINE then some ((List.range (hi - lo).toNat).map fun (k : Nat) => D.int (lo + (k : Int))) else none
/-- the things that a value gives one by one -/
def itemsD : D → Option (List D)
  | .tup ds => some ds
  | .lst ds => some ds
  | .str z => some (z.cps.toList.map fun c => .str ⟨#[c]⟩)
  | _ => none
def zipD : D → D → Option (List D)
  | .tup a, .tup b => some ((a.zip b).map fun p => D.tup [p.1, p.2])
  | _, _ => none

def rangeA1 (ds : List D) (S1 : Sto) : R (List D) := match ds with
  | [.int j] => R.opt (rangeD 0 j) S1
  | _ => .bad
def rangeA2 (ds : List D) (S1 : Sto) : R (List D) := match ds with
  | [.int i, .int j] => R.opt (rangeD i j) S1
  | _ => .bad
def zipA (ds : List D) (S1 : Sto) : R (List D) := match ds with
  | [a, b] => R.opt (zipD a b) S1
  | _ => .bad

def setSorted (g : G) (sc : Scope) (x : Str) : List Expr → Bool
  | [.Call (.Name y _) [a] [] _] => decide (x = "sorted") && (decide (y = "set") && (plainName y && (glB sc y && (!(g.fn y).isSome && (g.bi y && notStar a)))))
  | _ => false
/-! ### the evaluator -/
section
variable (g : G) (C : Call) (N : List Str)
mutual
/-- an expression in general position -/
def evE : Nat → Scope → Expr → Ev → Sto → R D
  | 0, _, _, _, _ => .bad
  | n + 1, sc, e, ρ, S => match e with
    | .Constant c _ _ => (match c with
      | .none => .ok .non S
      | .bool b => .ok (.bl b) S
      | .int i => .ok (.int i) S
      | .str x => .ok (.str x) S
      | _ => .bad)
    | .Name x _ =>
      if plainName x then
        if visB sc x then (match getSl ρ (ixOf N x) with
          | .val d => .ok d S
          | _ => .bad)
        else if glB sc x then R.opt (g.con x) S else .bad
      else .bad
    | .BinOp a op b _ => (evT n sc a ρ S).bind fun x S1 => (evT n sc b ρ S1).bind fun y S2 => R.opt (binD op (view S2 x) (view S2 y)) S2
    | .UnaryOp op a _ => (match op with
      | .Not => (evT n sc a ρ S).bind fun x S1 => R.opt ((truD (view S1 x)).map fun b => D.bl (!b)) S1
      | .USub => (evT n sc a ρ S).bind fun x S1 => (match x with
        | .int i => .ok (.int (-i)) S1
        | _ => .bad)
      | _ => .bad)
    | .BoolOp op es _ => (match es with
      | [] => .bad
      | e1 :: es1 => evBool n sc op e1 es1 ρ S)
    | .IfExp c a b _ => (evTest n sc c ρ S).bind fun t S1 => if t then evE n sc a ρ S1 else evE n sc b ρ S1
    | .Compare a ops bs _ => (match ops, bs with
      | [op], [b] => if lastMarks [op] [b] then .bad else (evT n sc a ρ S).bind fun x S1 => (evT n sc b ρ S1).bind fun y S2 => R.opt ((cmpD op (view S2 x) (view S2 y)).map D.bl) S2
      | [op, op2], [b, c] => if lastMarks [op, op2] [b, c] then .bad else (evT n sc a ρ S).bind fun x S1 => (evT n sc b ρ S1).bind fun y S2 => (R.opt (cmpD op (view S2 x) (view S2 y)) S2).bind fun t S3 =>
          if t then (evT n sc c ρ S3).bind fun z S4 => R.opt ((cmpD op2 (view S4 y) (view S4 z)).map D.bl) S4 else .ok (.bl false) S3
      | _, _ => .bad)
    | .Call f es ks cpos => (match f, ks with
      | .Name x _, [] =>
        if plainName x && glB sc x then
          if (g.fn x).isSome then (match es with
            | [] => .bad
            | e1 :: es1 => if (e1 :: es1).all notStar then (evA n sc (e1 :: es1) ρ S).bind fun ds S1 => C x ds S1 else .bad)
          else if g.bi x then
            if x = "isinstance" then (match es with
              | [a, .Name T _] => if glB sc T && g.bi T && plainName T && isT T && notStar a then (evT n sc a ρ S).bind fun d S1 => R.opt ((isiD T (view S1 d)).map D.bl) S1 else .bad
              | _ => .bad)
            else if setSorted g sc x es then (match es with
              | [.Call _ [a] _ _] => (evT n sc a ρ S).bind fun d S1 => R.opt (setSortD (view S1 d)) S1
              | _ => .bad)
            else if biC x then (match es with
              | [] => .bad
              | e1 :: es1 => if (e1 :: es1).all notStar then (evTs n sc (e1 :: es1) ρ S).bind fun ds S1 => R.opt (callD x (ds.map (view S1))) S1 else .bad)
            else .bad
          else if g.cl x then (match g.mt x "__init__" with
            | some q => (match es with
              | [] => .bad
              | e1 :: es1 => if (e1 :: es1).all notStar then (evA n sc (e1 :: es1) ρ S).bind fun ds S1 => (C q (.ref S1.length :: ds) (S1 ++ [.ins x []])).bind fun d S2 => initR S1.length d S2 else .bad)
            | none => .bad)
          else .bad
        else .bad
      | .Attribute o m apos, [] => (match es with
        | [a] => if m = "split" then if nameOrC o && notStar a && (apos.endLine == cpos.line) then (evT n sc o ρ S).bind fun x S1 => strM x fun z => (evE n sc a ρ S1).bind fun y S2 => R.opt (splitD z y) S2 else .bad
            else if m = "join" then if nameOrC o && notStar a && (apos.endLine == cpos.line) then (evT n sc o ρ S).bind fun x S1 => strM x fun z => (evE n sc a ρ S1).bind fun y S2 => R.opt (joinD z y) S2 else .bad
            else if baseB o && notStar a && (apos.endLine == cpos.line) then (evT n sc o ρ S).bind fun x S1 => (match methD g x m S1 with
              | some q => (evA n sc [a] ρ S1).bind fun ds S2 => C q (x :: ds) S2
              | none => .bad) else .bad
        | [] => if m = "pop" then if baseB o && (apos.endLine == cpos.line) then (evE n sc o ρ S).bind popS else .bad
            else if baseB o && (apos.endLine == cpos.line) then (evT n sc o ρ S).bind fun x S1 => (match methD g x m S1 with
              | some q => C q [x] S1
              | none => .bad) else .bad
        | a :: b :: es => if baseB o && (a :: b :: es).all notStar && (apos.endLine == cpos.line) && decide ((a :: b :: es).length < 20) then (evT n sc o ρ S).bind fun x S1 => (match methD g x m S1 with
              | some q => (evA n sc (a :: b :: es) ρ S1).bind fun ds S2 => C q (x :: ds) S2
              | none => .bad) else .bad)
      | _, _ => .bad)
    | .Attribute o f _ => if baseB o then (evT n sc o ρ S).bind fun x S1 => R.opt (fldD g x f S1) S1 else .bad
    | .Subscript a i _ => (match i with
      | .Slice lo hi none _ => (evT n sc a ρ S).bind fun x S1 => (evO n sc lo ρ S1).bind fun l S2 => (evO n sc hi ρ S2).bind fun h S3 => R.opt (sliceD (view S3 x) l h) S3
      | .Slice none none (some st) _ => if minus1 (some st) then (evT n sc a ρ S).bind fun x S1 => R.opt (revD (view S1 x)) S1 else .bad
      | .Slice _ _ (some _) _ => .bad
      | i => (evT n sc a ρ S).bind fun x S1 => (evE n sc i ρ S1).bind fun y S2 => R.opt (itemD (view S2 x) y) S2)
    | .Tuple es _ _ => if !(es.all notStar) then .bad else (evA n sc es ρ S).bind fun ds S1 => if ds.length ≤ LINE then .ok (.tup ds) S1 else .bad
    | .Dict ks vs _ => (match ks, vs with
      | [], [] => .ok (.ref S.length) (S ++ [.dic []])
      | [some a], [b] => (evE n sc a ρ S).bind fun k S1 => (evE n sc b ρ S1).bind fun v S2 => if (keyD k).isSome then .ok (.ref S2.length) (S2 ++ [.dic [(k, v)]]) else .bad
      | _, _ => .bad)
    | .List es _ => (match es with
      | [] => .ok (.ref S.length) (S ++ [.lst []])
      | e1 :: es1 => if !((e1 :: es1).all notStar) then .bad else (evA n sc (e1 :: es1) ρ S).bind fun ds S1 => if ds.length ≤ LINE then .ok (.lst ds) S1 else .bad)
    | .ListComp elt cs scope _ => (match cs with
      | [⟨tg, it, ifs, 0⟩] =>
        if L2.blkC N sc scope (ownOf N scope) && (tgtIx N n tg).all (fun i => decide (i ∈ (ownOf N scope).map (·.2))) && notSet it then
          (evI n sc tg it ρ S).bind fun ds S1 => if ds.length ≤ LINE then
            (compL (fun d S2 => lcStep (evIfs n (L2.relS scope sc) ifs) (evE n (L2.relS scope sc) elt) S2 (asgT N scope n tg d (wipeE ρ ((ownOf N scope).map (·.2))))) ds [] S1).bind fun ys S5 => .ok (.lst ys) S5 else .bad
        else .bad
      | [⟨tg, it, ifs, 0⟩, ⟨tg1, it1, ifs1, 0⟩] =>
        if L2.blkC N sc scope (ownOf N scope) && (tgtIx N n tg).all (fun i => decide (i ∈ (ownOf N scope).map (·.2))) && notSet it && ((tgtIx N n tg1).all (fun i => decide (i ∈ (ownOf N scope).map (·.2))) && notSet it1) then
          (evI n sc tg it ρ S).bind fun ds S1 =>
            (foldL2 (fun d acc S2 => lc2Step (evIfs n (L2.relS scope sc) ifs) (evI n (L2.relS scope sc) tg1 it1) (fun ρ1 d1 S3 => lcStep (evIfs n (L2.relS scope sc) ifs1) (fun ρ2 S4 => (evE n (L2.relS scope sc) elt ρ2 S4).noe) S3 (asgT N scope n tg1 d1 (wipeE ρ1 (tgtIx N n tg1)))) acc S2
              (asgT N scope n tg d (wipeE ρ ((ownOf N scope).map (·.2))))) ds [] S1).noe.bind fun ys S5 => if ys.length ≤ LINE then .ok (.lst ys) S5 else .bad
        else .bad
      | _ => .bad)
    | .DictComp kx vx cs scope _ => (match cs, vx with
      | [⟨tg, it, ifs, 0⟩], .Constant (.bool true) _ _ =>
        if L2.blkC N sc scope (ownOf N scope) && (tgtIx N n tg).all (fun i => decide (i ∈ (ownOf N scope).map (·.2))) && notSet it then
          (evI n sc tg it ρ S).bind fun ds S1 => if ds.length ≤ LINE then
            (compL (fun d S2 => lcStep (evIfs n (L2.relS scope sc) ifs) (fun ρ1 S3 => (keyE (evE n (L2.relS scope sc) kx ρ1 S3)).noe) S2 (asgT N scope n tg d (wipeE ρ ((ownOf N scope).map (·.2))))) ds [] S1).bind fun ys S5 => .ok (.dic (dedupI (keysOf ys))) S5 else .bad
        else .bad
      | _, _ => .bad)
    | _ => .bad
/-- an expression whose value is looked at and dropped -/
def evT : Nat → Scope → Expr → Ev → Sto → R D
  | 0, _, _, _, _ => .bad
  | n + 1, sc, e, ρ, S => match e with
    | .Name x p => if plainName x && visB sc x then (match getSl ρ (ixOf N x) with
          | .val d => .ok d S
          | .own ds => .ok (.lst ds) S
          | _ => .bad) else evE n sc (.Name x p) ρ S
    | .List [] _ => .ok (.lst []) S
    | e => evE n sc e ρ S
def evA : Nat → Scope → List Expr → Ev → Sto → R (List D)
  | 0, _, _, _, _ => .bad
  | _ + 1, _, [], _, S => .ok [] S
  | n + 1, sc, e :: es, ρ, S => (evE n sc e ρ S).bind fun d S1 => (evA n sc es ρ S1).bind fun ds S2 => .ok (d :: ds) S2
def evTs : Nat → Scope → List Expr → Ev → Sto → R (List D)
  | 0, _, _, _, _ => .bad
  | _ + 1, _, [], _, S => .ok [] S
  | n + 1, sc, e :: es, ρ, S => (evT n sc e ρ S).bind fun d S1 => (evTs n sc es ρ S1).bind fun ds S2 => .ok (d :: ds) S2
/-- an optional part of a slice -/
def evO : Nat → Scope → Option Expr → Ev → Sto → R (Option Int)
  | 0, _, _, _, _ => .bad
  | _ + 1, _, none, _, S => .ok none S
  | n + 1, sc, some e, ρ, S => (evE n sc e ρ S).bind fun d S1 => match d with
    | .int i => .ok (some i) S1
    | _ => .bad
/-- and, or as values -/
def evBool : Nat → Scope → BoolOp → Expr → List Expr → Ev → Sto → R D
  | 0, _, _, _, _, _, _ => .bad
  | n + 1, sc, op, e, es, ρ, S => (match es with
    | [] => evE n sc e ρ S
    | e2 :: es2 => (evE n sc e ρ S).bind fun x S1 => (match x with
      | .bl b => (match op with
        | .And => if b then evBool n sc op e2 es2 ρ S1 else .ok (.bl false) S1
        | .Or => if b then .ok (.bl true) S1 else evBool n sc op e2 es2 ρ S1)
      | _ => .bad))
/-- an expression as a test -/
def evTest : Nat → Scope → Expr → Ev → Sto → R Bool
  | 0, _, _, _, _ => .bad
  | n + 1, sc, e, ρ, S => match e with
    | .UnaryOp op a p => (match op with
      | .Not => (evTest n sc a ρ S).bind fun b S1 => .ok (!b) S1
      | op => (evT n sc (.UnaryOp op a p) ρ S).bind fun d S1 => R.opt (truD (view S1 d)) S1)
    | .BoolOp op es _ => (match es with
      | [] => .bad
      | e1 :: es1 => evTests n sc op e1 es1 ρ S)
    | .IfExp _ _ _ _ => .bad
    | .Compare a ops bs p => (evE n sc (.Compare a ops bs p) ρ S).bind fun d S1 => (match d with
      | .bl b => .ok b S1
      | _ => .bad)
    | e => (evT n sc e ρ S).bind fun d S1 => R.opt (truD (view S1 d)) S1
def evTests : Nat → Scope → BoolOp → Expr → List Expr → Ev → Sto → R Bool
  | 0, _, _, _, _, _, _ => .bad
  | n + 1, sc, op, e, es, ρ, S => (match es with
    | [] => evTest n sc e ρ S
    | e2 :: es2 => (evTest n sc e ρ S).bind fun b S1 => (match op with
      | .And => if b then evTests n sc op e2 es2 ρ S1 else .ok false S1
      | .Or => if b then .ok true S1 else evTests n sc op e2 es2 ρ S1))
/-- a clause's tests -/
def evIfs : Nat → Scope → List Expr → Ev → Sto → R Bool
  | 0, _, _, _, _ => .bad
  | _ + 1, _, [], _, S => .ok true S
  | n + 1, sc, [e], ρ, S => evTest n sc e ρ S
  | _ + 1, _, _, _, _ => .bad
/-- what a for walks -/
def evI : Nat → Scope → Expr → Expr → Ev → Sto → R (List D)
  | 0, _, _, _, _, _ => .bad
  | n + 1, sc, tg, e, ρ, S => match e with
    | .Call f es ks p => (match f, ks with
      | .Name x q, [] =>
        if plainName x && glB sc x && !(g.fn x).isSome && g.bi x then
          if x = "range" then (match es with
            | [a] => if notStar a then (evA n sc [a] ρ S).bind rangeA1 else .bad
            | [a, b] => if notStar a && notStar b then (evA n sc [a, b] ρ S).bind rangeA2 else .bad
            | _ => .bad)
          else if x = "zip" then (match es with
            | [a, b] => if notStar a && notStar b && isTup tg then (evA n sc [a, b] ρ S).bind zipA else .bad
            | _ => .bad)
          else if x = "enumerate" then (match es with
            | [a] => if notStar a && isTup tg then (evA n sc [a] ρ S).bind enumA else .bad
            | _ => .bad)
          else (evE n sc (.Call (.Name x q) es [] p) ρ S).bind fun d S1 => R.opt (itemsD d) S1
        else (evE n sc (.Call (.Name x q) es [] p) ρ S).bind fun d S1 => R.opt (itemsD d) S1
      | f, ks => (evE n sc (.Call f es ks p) ρ S).bind fun d S1 => R.opt (itemsD d) S1)
    | e => (evE n sc e ρ S).bind fun d S1 => R.opt (itemsD d) S1
end

/-! ### statements -/
/-- the things that a list is lengthened by -/
def moreD : D → Option (List D)
  | .lst ds => some ds
  | .tup ds => some ds
  | _ => none
/-- a, b = x, y with two names of the frame: stored from the right -/
def isLocB (sc : Scope) (x : Str) : Bool := match kindB sc x with
  | some .local => true | _ => false
def swapB (sc : Scope) (tg : List Expr) (e : Expr) : Bool := match tg, e with
  | [.Name x p, .Name y q], .Tuple [a, b] _ _ => isLocB sc x && isLocB sc y && q.line == p.line && !(x == y) && notStar a && notStar b && !([a, b].all (foldedForSure 8)) && !([a, b].all (constantsAlone 8))
  | _, _ => false
def swap3 (sc : Scope) (tg : List Expr) (e : Expr) : Bool := match tg, e with
  | [.Name x p, .Name y q, .Name z r], .Tuple [a, b, c] _ _ => isLocB sc x && isLocB sc y && isLocB sc z && q.line == p.line && r.line == p.line && !(x == y) && !(x == z) && !(y == z) && notStar a && notStar b && notStar c && !([a, b, c].all (foldedForSure 8)) && !([a, b, c].all (constantsAlone 8))
  | _, _ => false
/-- the usual way: the value, then the stores -/
def swapN (sc : Scope) (tg : List Expr) (e : Expr) : Bool := match e with
  | .Tuple vs _ _ => (match tg with
    | [.Name x _, .Name y _] => (!(isLocB sc x) || !(isLocB sc y) || vs.all (foldedForSure 8))
    | _ => false)
  | _ => true

/-- a op= b -/
def augD (op : Operator) (a b : Lw.D) : Option Lw.D := match op, a, b with
  | .Add, .int i, .int j => some (.int (i + j))
  | .Sub, .int i, .int j => some (.int (i - j))
  | .Add, .str x, .str y => if x.length + y.length ≤ LINE then some (.str (x ++ y)) else none
  | _, _, _ => none
def noComp : Expr → Bool
  | .ListComp _ _ _ _ => false | .SetComp _ _ _ _ => false | .DictComp _ _ _ _ _ => false | _ => true
/-- x = {..}, x = [.. for .. for ..]: x a cell -/
def plainSet (sc : Scope) (x : Str) (e : Expr) : Bool := match e with
  | .DictComp _ _ _ _ _ => !(isLocB sc x)
  | .ListComp _ cs _ _ => (match cs with
    | _ :: _ :: _ => !(isLocB sc x)
    | _ => true)
  | _ => true
def storeD (i : Nat) (j : Int) (v : D) (S : Sto) : Option Sto := match S[i]? with
  | some (.lst ds) => (L2.ixN ds.length j).map fun k => S.set i (.lst (ds.set k v))
  | _ => none
/-- a list of the store -/
def lstAt (x : D) (S : Sto) : Option Nat := match x with
  | .ref i => (match S[i]? with
    | some (.lst _) => some i
    | _ => none)
  | _ => none
/-- a list of the store grows -/
def appR (i : Nat) (d : D) (ρ : Ev) (S : Sto) : O := match S[i]? with
  | some (.lst ds) => if ds.length < LINE then .nx ρ (S.set i (.lst (ds ++ [d]))) else .bad
  | _ => .bad
/-- x[j] = v, x in the store: a list's place, a dict's key -/
def storeX (i : Nat) (j v : D) (S : Sto) : Option Sto := match S[i]? with
  | some (.dic kvs) => (keyD j).bind fun k => if kvs.length < LINE then some (S.set i (.dic (putKV kvs k j v))) else none
  | some (.lst _) => (match j with
    | .int j => storeD i j v S
    | _ => none)
  | some (.ins _ _) => none
  | none => none
def plainM : MO → Bool
  | .lst ds => D.plains ds
  | .dic kvs => kvs.all fun p => p.1.plain && p.2.plain
  | .ins _ fs => fs.all fun p => p.2.plain
/-- a lent list comes back from the store -/
def popD (n : Nat) (d : D) (S : Sto) : Option (List D × Sto) := if S.length = n + 1 ∧ d.plain = true ∧ S.all plainM = true then (match S[n]? with
  | some (.lst ds) => some (ds, S.take n)
  | _ => none) else none
/-- what an except clause makes of a suite's end: its word for the class -/
def tryE (g : G) (i : Nat) (x f : Str) : O → O
  | .err c ρ1 S1 => if i < ρ1.length then (match g.sub c x with
    | some true => (match g.cls f c with
      | some wd => .ret wd S1
      | none => .bad)
    | some false => .err c ρ1 S1
    | none => .bad) else .bad
  | o => o
/-- what an except clause without a name gives back -/
def tryO (g : G) (x : Str) (d : D) : O → O
  | .err c ρ1 S1 => (match g.sub c x with
    | some true => .ret d S1
    | some false => .err c ρ1 S1
    | none => .bad)
  | o => o
/-- what an except clause makes of the word for the class -/
def tryH (g : G) (i : Nat) (x f : Str) (h : D → Option D) : O → O
  | .err c ρ1 S1 => if i < ρ1.length then (match g.sub c x with
    | some true => (match (g.cls f c).bind h with
      | some wd => .ret wd S1
      | none => .bad)
    | some false => .err c ρ1 S1
    | none => .bad) else .bad
  | o => o
def hvL (F : Expr → Option D) : List Expr → Option (List D)
  | [] => some []
  | e :: es => (match F e with
    | some d => (match hvL F es with
      | some ds => some (d :: ds)
      | none => none)
    | none => none)
/-- an except suite's expression: constants, tuples, the word that a def tells of the exception -/
def hvE (nm f : Str) (wd : Option D) : Nat → Expr → Option D
  | 0, _ => none
  | n + 1, e => (match e with
    | .Constant c _ _ => (match c with
      | .none => some .non
      | .bool b => some (.bl b)
      | .int i => some (.int i)
      | .str x => some (.str x)
      | _ => none)
    | .Tuple es _ _ => if es.all notStar then (match hvL (hvE nm f wd n) es with
      | some ds => if ds.length ≤ LINE then some (.tup ds) else none
      | none => none) else none
    | .Call fx es ks _ => (match fx, es, ks with
      | .Name f2 _, [.Name nm2 _], [] => if f2 = f ∧ nm2 = nm then wd else none
      | _, _, _ => none)
    | _ => none)
def holeF : Nat → Expr → Option Str
  | 0, _ => none
  | n + 1, e => (match e with
    | .Tuple es _ _ => es.findSome? (holeF n)
    | .Call fx es ks _ => (match fx, es, ks with
      | .Name f2 _, [.Name _ _], [] => some f2
      | _, _, _ => none)
    | _ => none)
def tryK (g : G) (N : List Str) (sc : Scope) (hs : List ExceptHandler) (els fin : List Stmt) : Option (O → O) := match hs, els, fin with
  | [.ExceptHandler (some (.Name x _)) nmo [.Return (some e) _] _], [], [] =>
    if g.exc x && glB sc x && plainName x then (match nmo with
      | none => (hvE "" "" none 5 e).map fun d => tryO g x d
      | some nm => (match holeF 5 e with
        | some f => if isLocB sc nm && (glB sc f && plainName f && plainName nm) && decide (ixOf N nm < N.length) then (match e with
            | .Call (.Name f' _) [.Name nm2 _] [] _ => if nm = nm2 then some (tryE g (ixOf N nm) x f') else none
            | _ => some (tryH g (ixOf N nm) x f fun wd => hvE nm f (some wd) 5 e)) else none
        | none => none))
    else none
  | _, _, _ => none
mutual
def exS (boxy : Bool) : Nat → Scope → Stmt → Ev → Sto → O
  | 0, _, _, _, _ => .bad
  | n + 1, sc, st, ρ0, S => match st with
    | .Assign ts e _ => (match ts with
      | [.Name x _] => let ρ := freeze N (gens n e) ρ0
        if locB sc x && decide (ixOf N x < ρ.length) then (match e with
          | .List es _ => if !(es.all notStar) then .bad else (evA g C N n sc es ρ S).run ρ fun ds S1 => if ds.length ≤ LINE then (if boxy then .nx (ρ.set (ixOf N x) (.val (.ref S1.length))) (S1 ++ [.lst ds]) else .nx (ρ.set (ixOf N x) (.own ds)) S1) else .bad
          | e => if plainSet sc x e then (evE g C N n sc e ρ S).run ρ fun d S1 => .nx (ρ.set (ixOf N x) (.val d)) S1 else .bad)
        else .bad
      | [.Tuple tg k p] => let ρ := freeze N (gens n e) ρ0
        if swapB sc tg e then (match tg, e with
        | [.Name x _, .Name y _], .Tuple [a, b] _ _ =>
          if decide (ixOf N x < ρ.length) && decide (ixOf N y < ρ.length) && notStar a && notStar b then
            (evA g C N n sc [a, b] ρ S).run ρ fun ds S1 => (match ds with
              | [d1, d2] => .nx ((ρ.set (ixOf N x) (.val d1)).set (ixOf N y) (.val d2)) S1
              | _ => .bad)
          else .bad
        | _, _ => .bad)
        else if swap3 sc tg e then (match tg, e with
        | [.Name x _, .Name y _, .Name z _], .Tuple [a, b, c] _ _ =>
          if decide (ixOf N x < ρ.length) && decide (ixOf N y < ρ.length) && decide (ixOf N z < ρ.length) then
            (evA g C N n sc [a, b, c] ρ S).run ρ fun ds S1 => (match ds with
              | [d1, d2, d3] => .nx (((ρ.set (ixOf N x) (.val d1)).set (ixOf N y) (.val d2)).set (ixOf N z) (.val d3)) S1
              | _ => .bad)
          else .bad
        | _, _ => .bad)
        else if swapN sc tg e then (evE g C N n sc e ρ S).run ρ fun d S1 => (match asgT N sc n (.Tuple tg k p) d ρ with
          | some ρ1 => .nx ρ1 S1
          | none => .bad)
        else .bad
      | [.Subscript o i _] => (match i with
        | .Slice _ _ _ _ => .bad
        | i => let ρ := freeze N (gens n e ++ gens n i) ρ0
          (evE g C N n sc e ρ S).run ρ fun v S1 => (evE g C N n sc o ρ S1).run ρ fun x S2 => (evE g C N n sc i ρ S2).run ρ fun j S3 => (match x with
            | .ref a => (match storeX a j v S3 with
              | some S4 => .nx ρ S4
              | none => .bad)
            | _ => .bad))
      | [.Attribute o f _] => let ρ := freeze N (gens n e ++ gensT n o) ρ0
        (match e with
        | .List es _ => if !(es.all notStar) then .bad else (evA g C N n sc es ρ S).run ρ fun ds S1 => if ds.length ≤ LINE then (evT g C N n sc o ρ (S1 ++ [.lst ds])).run ρ fun x S2 => (match storeF g x f (.ref S1.length) S2 with
            | some S3 => .nx ρ S3
            | none => .bad) else .bad
        | e => if !(noComp e) then .bad else (evE g C N n sc e ρ S).run ρ fun v S1 => (evT g C N n sc o ρ S1).run ρ fun x S2 => (match storeF g x f v S2 with
            | some S3 => .nx ρ S3
            | none => .bad))
      | _ => .bad)
    | .AugAssign tg op e _ => (match tg with
      | .Name x _ => let ρ := freeze N (gens n e) ρ0
        if locB sc x && decide (ixOf N x < ρ.length) then (match getSl ρ (ixOf N x) with
          | .val d0 => (evE g C N n sc e ρ S).run ρ fun d S1 => (match augD op d0 d with
            | some d2 => .nx (ρ.set (ixOf N x) (.val d2)) S1
            | none => .bad)
          | _ => .bad)
        else .bad
      | _ => .bad)
    | .Expr e _ => (match e with
      | .Call (.Attribute (.Name x xp) m ap) [a] [] cp =>
        if m = "append" then if !(ap.endLine == cp.line) || !(notStar a) then .bad else
          if locB sc x && plainName x then (if decide (x ∈ gens n a) then
            let ρ := freeze N ((gens n a).filter fun y => !(decide (y = x))) ρ0
            (match getSl ρ (ixOf N x) with
            | .own ds => (evE g C N n sc a (ρ.set (ixOf N x) (.val (.ref S.length))) (S ++ [.lst ds])).run (ρ.set (ixOf N x) (.val (.ref S.length))) fun d S1 => (match popD S.length d S1 with
              | some (ds', S3) => if ds'.length < LINE then .nx (ρ.set (ixOf N x) (.own (ds' ++ [d]))) S3 else .bad
              | none => .bad)
            | _ => .bad)
            else let ρ := freeze N (gens n a) ρ0
            (match getSl ρ (ixOf N x) with
            | .own ds => (evE g C N n sc a ρ S).run ρ fun d S1 => if ds.length < LINE then .nx (ρ.set (ixOf N x) (.own (ds ++ [d]))) S1 else .bad
            | .val x => (match lstAt x S with
              | some i => (evE g C N n sc a ρ S).run ρ fun d S1 => appR i d ρ S1
              | none => .bad)
            | _ => .bad))
          else .bad
        else if m = "extend" then if !(ap.endLine == cp.line) || !(notStar a) then .bad else
          if locB sc x && plainName x then let ρ := freeze N (gens n a) ρ0
            (match getSl ρ (ixOf N x) with
            | .own ds => (evE g C N n sc a ρ S).run ρ fun d S1 => (match moreD (view S1 d) with
              | some es => if ds.length + es.length < LINE then .nx (ρ.set (ixOf N x) (.own (ds ++ es))) S1 else .bad
              | none => .bad)
            | _ => .bad)
          else .bad
        else let ρ := freeze N (gens n (.Call (.Attribute (.Name x xp) m ap) [a] [] cp)) ρ0
        (evE g C N n sc (.Call (.Attribute (.Name x xp) m ap) [a] [] cp) ρ S).run ρ fun _ S1 => .nx ρ S1
      | .Call (.Attribute (.Attribute o f sp) m ap) [a] [] cp =>
        if m = "append" then if !(ap.endLine == cp.line) || !(notStar a) then .bad else
          let ρ := freeze N (gens n (.Attribute o f sp) ++ gens n a) ρ0
          (evE g C N n sc (.Attribute o f sp) ρ S).run ρ fun x S1 => (match lstAt x S1 with
            | some i => (evE g C N n sc a ρ S1).run ρ fun d S2 => appR i d ρ S2
            | none => .bad)
        else .bad
      | .Call (.Attribute (.Subscript o i sp) m ap) [a] [] cp =>
        if m = "append" then if !(ap.endLine == cp.line) || !(notStar a) then .bad else
          let ρ := freeze N (gens n (.Subscript o i sp) ++ gens n a) ρ0
          (evE g C N n sc (.Subscript o i sp) ρ S).run ρ fun x S1 => (match lstAt x S1 with
            | some i => (evE g C N n sc a ρ S1).run ρ fun d S2 => appR i d ρ S2
            | none => .bad)
        else .bad
      | e => if !(noComp e) then .bad else let ρ := freeze N (gens n e) ρ0
        (evE g C N n sc e ρ S).run ρ fun _ S1 => .nx ρ S1)
    | .Return v _ => (match v with
      | none => .ret .non S
      | some e => let ρ := freeze N (gens n e) ρ0
        (match boxy, e with
        | true, .List es _ => if !(es.all notStar) then .bad else (evA g C N n sc es ρ S).run ρ fun ds S1 => if ds.length ≤ LINE then .ret (.ref S1.length) (S1 ++ [.lst ds]) else .bad
        | _, .List [] _ => .ret (.lst []) S
        | _, e => (evE g C N n sc e ρ S).run ρ fun d S1 => .ret d S1))
    | .If c a b _ => let ρ := freeze N (gens n c) ρ0
      (evTest g C N n sc c ρ S).run ρ fun t S1 => if t then exSs boxy n sc a ρ S1 else exSs boxy n sc b ρ S1
    | .For tg it body els _ => (match els with
      | [] => if !(notSet it) then .bad else let ρ := freeze N (gens n it) ρ0
        (evI g C N n sc tg it ρ S).run ρ fun ds S1 => forL (fun d ρ1 S2 => match asgT N sc n tg d ρ1 with
          | some ρ2 => exSs boxy n sc body ρ2 S2
          | none => .bad) ds ρ S1
      | _ => .bad)
    | .While c body els _ => (match els with
      | [] => let ρ := freeze N (gens n c) ρ0
        whileL (fun ρ1 S1 => evTest g C N n sc c ρ1 S1) (fun ρ1 S1 => match exSs boxy n sc body ρ1 S1 with
          | .nx ρ2 S2 => .nx (freeze N (gens n c) ρ2) S2
          | .cnt ρ2 S2 => .cnt (freeze N (gens n c) ρ2) S2
          | o => o) 5000 ρ S
      | _ => .bad)
    | .Pass _ => .nx ρ0 S
    | .Break _ => .brk ρ0 S
    | .Continue _ => .cnt ρ0 S
    | .Raise x y _ => (match x, y with
      | some (.Call (.Name c _) [] [] _), none => if g.exc c && glB sc c && plainName c then .err c ρ0 S else .bad
      | _, _ => .bad)
    | .Try body hs els fin _ => (match tryK g N sc hs els fin with
      | some F => F (exSs boxy n sc body ρ0 S)
      | none => .bad)
    | _ => .bad
def exSs (boxy : Bool) : Nat → Scope → List Stmt → Ev → Sto → O
  | 0, _, _, _, _ => .bad
  | _ + 1, _, [], ρ, S => .nx ρ S
  | n + 1, sc, st :: sts, ρ, S => (exS boxy n sc st ρ S).seq fun ρ1 S1 => exSs boxy n sc sts ρ1 S1
end
end

/-- the slots at a def's entry -/
def startE (N : List Str) (ds : List D) : Ev := ds.map Sl.val ++ List.replicate (N.length - ds.length) Sl.un
def O.fin : O → R D
  | .nx _ S => .ok .non S
  | .ret d S => .ok d S
  | .err c _ S => .err c S
  | _ => .bad
/-- a def's body, run -/
def runFd (g : G) (C : Call) (fd : Fd) (ds : List D) (S : Sto) : R D :=
  if ds.length = fd.ps.length then (if fd.gc then gcR S.length (exSs g C fd.N fd.boxy 60 fd.sc fd.body (startE fd.N ds) S).fin else (exSs g C fd.N fd.boxy 60 fd.sc fd.body (startE fd.N ds) S).fin) else .bad
/-- a call, so many calls deep at the most -/
def callN (g : G) : Nat → Call
  | 0, _, _, _ => .bad
  | k + 1, f, ds, S => match g.fn f with
    | some fd => runFd g (callN g k) fd ds S
    | none => (match g.mf f with
      | some fd => runFd g (callN g k) fd ds S
      | none => .bad)
end Lw
set_option maxHeartbeats 1000000
/-! LwB: how data lie in the heap. -/
namespace Lw
open PySem PySem.Spec PyProof.Rows L2

/-- the addresses of lists that nobody changes any more; the store's things by number -/
structure Wd where
  Fz : Addr → Prop
  n : Nat
  μ : Nat → Addr
  w : World
/-- whole numbers as a dict's keys, each with True -/
def kTrue (ks : List Int) : List (Key × V) := ks.map fun i => (.inl i, .bl true)
mutual
inductive Rep (K : PySem.W.Frag) (W : Wd) (H : Hp) : D → V → Prop
  | non : Rep K W H .non .non
  | bl (b : Bool) : Rep K W H (.bl b) (.bl b)
  | int (i : Int) : Rep K W H (.int i) (.int i)
  | str (x : Str) : Rep K W H (.str x) (.str x)
  | tup {a : Addr} {vs : List V} {ds : List D} : SqT K H a vs → Reps K W H ds vs → Rep K W H (.tup ds) (.ref a)
  | lst {a : Addr} {vs : List V} {ds : List D} : W.Fz a → Rd H a (.lst vs) → Reps K W H ds vs → Rep K W H (.lst ds) (.ref a)
  | ref {i : Nat} : i < W.n → Rep K W H (.ref i) (.ref (W.μ i))
  | dic {a : Addr} {ks : List Int} : W.Fz a → Rd H a (.dK (kTrue ks)) → Rep K W H (.dic ks) (.ref a)
  | fn {x : Str} : Rep K W H (.fn x) (.ref (He.ga K x))
inductive Reps (K : PySem.W.Frag) (W : Wd) (H : Hp) : List D → List V → Prop
  | nil : Reps K W H [] []
  | cons {d : D} {ds : List D} {v : V} {vs : List V} : Rep K W H d v → Reps K W H ds vs → Reps K W H (d :: ds) (v :: vs)
end
section
variable {K : PySem.W.Frag} {W W' W1 W2 : Wd} {H H' H1 H2 : Hp} {S S' S1 : Sto} {d : D} {ds es : List D} {v : V} {vs us : List V}
theorem Reps.length : ∀ {ds : List D} {vs : List V}, Reps K W H ds vs → ds.length = vs.length
  | _, _, .nil => rfl
  | _, _, .cons _ t => by rw [List.length_cons, List.length_cons, Reps.length t]
theorem Reps.get : ∀ {ds : List D} {vs : List V} {i : Nat} {d : D}, Reps K W H ds vs → ds[i]? = some d → ∃ v, vs[i]? = some v ∧ Rep K W H d v
  | _, _, _, _, .nil, e => by simp at e
  | _, _, 0, _, .cons r _, e => by simp at e; subst e; exact ⟨_, rfl, r⟩
  | _, _, i + 1, d, .cons _ t, e => by
    obtain ⟨v, h1, h2⟩ := Reps.get (i := i) (d := d) t (by simpa using e)
    exact ⟨v, by simpa using h1, h2⟩
theorem Reps.getV : ∀ {ds : List D} {vs : List V} {i : Nat} {v : V}, Reps K W H ds vs → vs[i]? = some v → ∃ d, ds[i]? = some d ∧ Rep K W H d v
  | _, _, _, _, .nil, e => by simp at e
  | _, _, 0, _, .cons r _, e => by simp at e; subst e; exact ⟨_, rfl, r⟩
  | _, _, i + 1, v, .cons _ t, e => by
    obtain ⟨d, h1, h2⟩ := Reps.getV (i := i) (v := v) t (by simpa using e)
    exact ⟨d, by simpa using h1, h2⟩
theorem Reps.append : ∀ {ds es : List D} {vs us : List V}, Reps K W H ds vs → Reps K W H es us → Reps K W H (ds ++ es) (vs ++ us)
  | _, _, _, _, .nil, s => s
  | _, _, _, _, .cons r t, s => .cons r (Reps.append t s)
theorem Reps.take : ∀ {ds : List D} {vs : List V} (n : Nat), Reps K W H ds vs → Reps K W H (ds.take n) (vs.take n)
  | _, _, 0, _ => .nil
  | _, _, _ + 1, .nil => .nil
  | _, _, n + 1, .cons r t => .cons r (Reps.take n t)
theorem Reps.drop : ∀ {ds : List D} {vs : List V} (n : Nat), Reps K W H ds vs → Reps K W H (ds.drop n) (vs.drop n)
  | _, _, 0, r => r
  | _, _, _ + 1, .nil => .nil
  | _, _, n + 1, .cons _ t => Reps.drop n t
theorem Reps.set : ∀ {ds : List D} {vs : List V} {d : D} {v : V} (i : Nat), Rep K W H d v → Reps K W H ds vs → Reps K W H (ds.set i d) (vs.set i v)
  | _, _, _, _, _, _, .nil => .nil
  | _, _, _, _, 0, r, .cons _ t => .cons r t
  | _, _, _, _, i + 1, r, .cons q t => .cons q (Reps.set i r t)
theorem Reps.one (r : Rep K W H d v) : Reps K W H [d] [v] := .cons r .nil

/-- what may be read stays so -/
structure Pre (K : PySem.W.Frag) (W : Wd) (H : Hp) (W' : Wd) (H' : Hp) : Prop where
  tup : ∀ a xs, SqT K H a xs → SqT K H' a xs
  fz : ∀ a, W.Fz a → W'.Fz a
  frz : ∀ a u, W.Fz a → Rd H a u → Rd H' a u
  n : W.n ≤ W'.n
  mu : ∀ i, i < W.n → W'.μ i = W.μ i
  w : W'.w = W.w
theorem Pre.refl : Pre K W H W H := ⟨fun _ _ h => h, fun _ h => h, fun _ _ _ h => h, Nat.le_refl _, fun _ _ => rfl, rfl⟩
theorem Pre.trans (a : Pre K W H W1 H1) (b : Pre K W1 H1 W2 H2) : Pre K W H W2 H2 :=
  ⟨fun c xs h => b.tup c xs (a.tup c xs h), fun c h => b.fz c (a.fz c h), fun c xs f h => b.frz c xs (a.fz c f) (a.frz c xs f h), Nat.le_trans a.n b.n,
    fun i h => (b.mu i (Nat.lt_of_lt_of_le h a.n)).trans (a.mu i h), b.w.trans a.w⟩
mutual
theorem Rep.pre (p : Pre K W H W' H') : ∀ {d : D} {v : V}, Rep K W H d v → Rep K W' H' d v
  | _, _, .non => .non
  | _, _, .bl b => .bl b
  | _, _, .int i => .int i
  | _, _, .str x => .str x
  | _, _, .tup h r => .tup (p.tup _ _ h) (Reps.pre p r)
  | _, _, .lst f h r => .lst (p.fz _ f) (p.frz _ _ f h) (Reps.pre p r)
  | _, _, .dic f h => .dic (p.fz _ f) (p.frz _ _ f h)
  | _, _, .fn => .fn
  | _, _, .ref (i := i) h => by
    have e := p.mu i h
    rw [← e]
    exact .ref (Nat.lt_of_lt_of_le h p.n)
theorem Reps.pre (p : Pre K W H W' H') : ∀ {ds : List D} {vs : List V}, Reps K W H ds vs → Reps K W' H' ds vs
  | _, _, .nil => .nil
  | _, _, .cons r t => .cons (Rep.pre p r) (Reps.pre p t)
end

/-- an entry of a dict: its key's tuple, its value -/
structure EntOk (K : PySem.W.Frag) (W : Wd) (H : Hp) (p : D × D) (x : NestedKey × Addr × Value) : Prop where
  key : keyD p.1 = some x.1
  rep : Rep K W H p.1 (.ref x.2.1)
  val : ∃ v, RelV v x.2.2 ∧ Rep K W H p.2 v
def entN (w : World) (x : NestedKey × Addr × Value) : DictEntry := ⟨x.1.hash w, .ref x.2.1, x.2.2⟩
/-- a dict with tuples as keys -/
def DicAt (K : PySem.W.Frag) (W : Wd) (H : Hp) (a : Addr) (kvs : List (D × D)) : Prop := ∃ (o : Obj) (es : Array DictEntry) (ep : Nat) (xs : List (NestedKey × Addr × Value)),
  H a = some (.ext fun h => h.get? a = some o) ∧ o.ExactDict ∧ o.data = .dict es ep ∧ (a == sysModules) = false ∧ kvs.length ≤ sizeLine ∧ es.toList = xs.map (entN W.w) ∧ (xs.map (·.1)).Nodup ∧ Paired (EntOk K W H) kvs xs
structure FldOk (K : PySem.W.Frag) (W : Wd) (H : Hp) (p : Str × D) (q : Str × V) : Prop where
  nm : p.1 = q.1
  rep : Rep K W H p.2 q.2
def MOk (K : PySem.W.Frag) (W : Wd) (H : Hp) (a : Addr) : MO → Prop
  | .lst ds => ∃ vs, H a = some (.lst vs) ∧ Reps K W H ds vs
  | .dic kvs => DicAt K W H a kvs
  | .ins c fs => ∃ dx gs, H a = some (.ins (He.ga K c) dx gs) ∧ Paired (FldOk K W H) fs gs
theorem MOk.mut {a : Addr} {o : MO} (h : MOk K W H a o) : ∃ u, H a = Option.some u ∧ (∀ xs, u ≠ .tup xs) ∧ ∀ ob v, u ≠ .frz ob v := by
  cases o with
  | lst ds => obtain ⟨vs, e, _⟩ := h; exact ⟨_, e, ⟨fun _ z => (by cases z), fun _ _ z => (by cases z)⟩⟩
  | dic kvs => obtain ⟨o, es, ep, xs, e, _⟩ := h; exact ⟨_, e, ⟨fun _ z => (by cases z), fun _ _ z => (by cases z)⟩⟩
  | ins c fs => obtain ⟨dx, gs, e, _⟩ := h; exact ⟨_, e, ⟨fun _ z => (by cases z), fun _ _ z => (by cases z)⟩⟩
theorem MOk.some {a : Addr} {o : MO} (h : MOk K W H a o) : H a ≠ none := by
  obtain ⟨u, e, _⟩ := h.mut
  rw [e]; exact fun z => by cases z
/-- the store lies in the heap -/
structure WS (K : PySem.W.Frag) (W : Wd) (H : Hp) (S : Sto) : Prop where
  len : S.length = W.n
  ob : ∀ i o, S[i]? = some o → MOk K W H (W.μ i) o
  inj : ∀ i j, i < W.n → j < W.n → W.μ i = W.μ j → i = j
  nfz : ∀ i, i < W.n → ¬ W.Fz (W.μ i)
  fz : ∀ a, W.Fz a → H a ≠ none
  wf : ∀ a xs, Rd H a (.lst xs) → xs.length ≤ sizeLine
  wft : ∀ a xs, SqT K H a xs → xs.length ≤ sizeLine
theorem WS.there (w : WS K W H S) {i : Nat} (h : i < W.n) : ∃ o, S[i]? = some o ∧ MOk K W H (W.μ i) o := by
  have h' : i < S.length := by rw [w.len]; exact h
  exact ⟨S[i], List.getElem?_eq_getElem h', w.ob i _ (List.getElem?_eq_getElem h')⟩
theorem WS.some (w : WS K W H S) {i : Nat} (h : i < W.n) : H (W.μ i) ≠ none := by
  obtain ⟨o, _, m⟩ := w.there h
  exact m.some
theorem WS.mutAt (w : WS K W H S) {i : Nat} (h : i < W.n) : ∃ u, H (W.μ i) = Option.some u ∧ (∀ xs, u ≠ .tup xs) ∧ ∀ ob v, u ≠ .frz ob v := by
  obtain ⟨o, _, m⟩ := w.there h
  exact m.mut

/-- an expression's way: all stands as it stood, but the store's things -/
structure Le (W : Wd) (H : Hp) (W' : Wd) (H' : Hp) : Prop where
  keep : ∀ b o, H b = some o → (∀ i, i < W.n → W.μ i ≠ b) → H' b = some o
  sto : ∀ i, i < W.n → H' (W.μ i) ≠ none
  n : W.n ≤ W'.n
  mu : ∀ i, i < W.n → W'.μ i = W.μ i
  fz : ∀ a, W.Fz a → W'.Fz a
  fz' : ∀ a, W'.Fz a → W.Fz a ∨ H a = none
  new : ∀ i, W.n ≤ i → i < W'.n → H (W'.μ i) = none
  w : W'.w = W.w
theorem WS.refl (w : WS K W H S) : Le W H W H :=
  ⟨fun _ _ e _ => e, fun _ h => w.some h, Nat.le_refl _, fun _ _ => rfl, fun _ h => h, fun _ h => .inl h, fun i h1 h2 => absurd (Nat.lt_of_le_of_lt h1 h2) (Nat.lt_irrefl _), rfl⟩
theorem Le.gone (a : Le W H W1 H1) {b : Addr} (e : H1 b = none) : H b = none := by
  cases q : H b with
  | none => rfl
  | some o =>
    by_cases hb : ∀ i, i < W.n → W.μ i ≠ b
    · rw [a.keep b o q hb] at e; cases e
    · exfalso
      apply hb
      intro i hi z
      exact a.sto i hi (by rw [z]; exact e)
theorem Le.trans (a : Le W H W1 H1) (b : Le W1 H1 W2 H2) : Le W H W2 H2 where
  keep := fun c o e h => b.keep c o (a.keep c o e h) fun i hi z => by
    by_cases hl : i < W.n
    · exact h i hl (by rw [← a.mu i hl]; exact z)
    · have q := a.new i (Nat.le_of_not_lt hl) hi
      rw [z, e] at q; cases q
  sto := fun i hi => by rw [← a.mu i hi]; exact b.sto i (Nat.lt_of_lt_of_le hi a.n)
  n := Nat.le_trans a.n b.n
  mu := fun i hi => (b.mu i (Nat.lt_of_lt_of_le hi a.n)).trans (a.mu i hi)
  fz := fun c h => b.fz c (a.fz c h)
  fz' := fun c h => by
    rcases b.fz' c h with q | q
    · exact a.fz' c q
    · exact .inr (a.gone q)
  new := fun i h1 h2 => by
    by_cases hl : i < W1.n
    · rw [b.mu i hl]; exact a.new i h1 hl
    · exact a.gone (b.new i (Nat.le_of_not_lt hl) h2)
  w := b.w.trans a.w
theorem Le.pre (w : WS K W H S) (a : Le W H W' H') : Pre K W H W' H' where
  tup := fun c xs h => by
    have ne : ∀ o, H c = some o → ((∃ xs, o = .tup xs) ∨ ∃ ob v, o = .frz ob v) → H' c = some o := fun o e h => a.keep c o e fun i hi z => by
      obtain ⟨u, q, q1, q2⟩ := w.mutAt hi
      rw [z, e] at q
      cases q
      rcases h with ⟨xs, h⟩ | ⟨ob, v, h⟩
      · exact q1 xs h
      · exact q2 ob v h
    rcases h with (h | ⟨o, h⟩) | h
    · exact .inl (.inl (ne _ h (.inl ⟨_, rfl⟩)))
    · exact .inl (.inr ⟨o, ne _ h (.inr ⟨_, _, rfl⟩)⟩)
    · exact .inr h
  fz := a.fz
  frz := fun c xs f h => by
    have ns : ∀ i, i < W.n → W.μ i ≠ c := fun i hi z => w.nfz i hi (by rw [z]; exact f)
    rcases h with h | ⟨o, h⟩
    · exact .inl (a.keep c _ h ns)
    · exact .inr ⟨o, a.keep c _ h ns⟩
  n := a.n
  mu := a.mu
  w := a.w

/-- a value that is looked at and dropped: it may be a list of the frame's own -/
def RepT (K : PySem.W.Frag) (W : Wd) (H : Hp) (d : D) (v : V) : Prop := Rep K W H d v ∨ ∃ ds a vs, d = .lst ds ∧ v = .ref a ∧ H a = some (.lst vs) ∧ Reps K W H ds vs ∧ ∀ i, i < W.n → W.μ i ≠ a
theorem RepT.le (w : WS K W H S) (l : Le W H W' H') (r : RepT K W H d v) : RepT K W' H' d v := by
  rcases r with r | ⟨ds, a, vs, rfl, rfl, e, r, h⟩
  · exact .inl (r.pre (l.pre w))
  · refine .inr ⟨ds, a, vs, rfl, rfl, l.keep a _ e h, r.pre (l.pre w), fun i hi z => ?_⟩
    by_cases hl : i < W.n
    · exact h i hl (by rw [← l.mu i hl]; exact z)
    · have q := l.new i (Nat.le_of_not_lt hl) hi
      rw [z, e] at q; cases q
inductive RepTs (K : PySem.W.Frag) (W : Wd) (H : Hp) : List D → List V → Prop
  | nil : RepTs K W H [] []
  | cons {d : D} {ds : List D} {v : V} {vs : List V} : RepT K W H d v → RepTs K W H ds vs → RepTs K W H (d :: ds) (v :: vs)
theorem RepTs.le (w : WS K W H S) (l : Le W H W' H') : ∀ {ds : List D} {vs : List V}, RepTs K W H ds vs → RepTs K W' H' ds vs
  | _, _, .nil => .nil
  | _, _, .cons r t => .cons (r.le w l) (RepTs.le w l t)
/-- a value seen: a list's items are at hand -/
inductive See (K : PySem.W.Frag) (W : Wd) (H : Hp) : D → V → Prop
  | non : See K W H .non .non
  | bl (b : Bool) : See K W H (.bl b) (.bl b)
  | int (i : Int) : See K W H (.int i) (.int i)
  | str (x : Str) : See K W H (.str x) (.str x)
  | tup {a : Addr} {vs : List V} {ds : List D} : SqT K H a vs → Reps K W H ds vs → See K W H (.tup ds) (.ref a)
  | lst {a : Addr} {vs : List V} {ds : List D} : Rd H a (.lst vs) → Reps K W H ds vs → See K W H (.lst ds) (.ref a)
  | dic {a : Addr} {ks : List Int} : Rd H a (.dK (kTrue ks)) → See K W H (.dic ks) (.ref a)
  | dct {a : Addr} {kvs : List (D × D)} : DicAt K W H a kvs → See K W H (.dct kvs) (.ref a)
  | fn {x : Str} : See K W H (.fn x) (.ref (He.ga K x))
  | obj {i : Nat} {a : Addr} : See K W H (.ref i) (.ref a)
theorem RepT.see (w : WS K W H S) (r : RepT K W H d v) : See K W H (view S d) v := by
  rcases r with r | ⟨ds, a, vs, rfl, rfl, e, r, h⟩
  · cases r with
    | non => exact .non
    | bl b => exact .bl b
    | int i => exact .int i
    | str x => exact .str x
    | tup h r => exact .tup h r
    | lst f h r => exact .lst h r
    | dic f h => exact .dic h
    | fn => exact .fn
    | @ref i h =>
      obtain ⟨o, e, m⟩ := w.there h
      cases o with
      | lst ds =>
        obtain ⟨vs, e2, r⟩ := m
        rw [show view S (.ref i) = .lst ds by simp only [view, e]]
        exact .lst (.inl e2) r
      | dic kvs =>
        rw [show view S (.ref i) = .dct kvs by simp only [view, e]]
        exact .dct m
      | ins c fs =>
        rw [show view S (.ref i) = .ref i by simp only [view, e]]
        exact .obj
  · exact .lst (.inl e) r

/-! ### new things -/
def Wd.add (W : Wd) (p : Addr) : Wd := { W with Fz := fun a => W.Fz a ∨ a = p }
theorem rd_upd {p a : Addr} {o u : HO} (hp : H p = none) (h : Rd (upd H p o) a u) (ne : ∀ ob, o ≠ .frz ob u) : Rd H a u ∨ (a = p ∧ u = o) := by
  by_cases e : a = p
  · subst e
    rcases h with h | ⟨ob, h⟩
    · rw [upd_same] at h; exact .inr ⟨rfl, (Option.some.inj h).symm⟩
    · rw [upd_same] at h; exact absurd (Option.some.inj h) (ne ob)
  · rcases h with h | ⟨ob, h⟩
    · rw [upd_ne e] at h; exact .inl (.inl h)
    · rw [upd_ne e] at h; exact .inl (.inr ⟨ob, h⟩)
theorem rd_keep {p a : Addr} {o u : HO} (hp : H p = none) (h : Rd H a u) : Rd (upd H p o) a u := by
  rcases h with h | ⟨ob, h⟩
  · exact .inl (by rw [upd_ne (ne_of_none h hp)]; exact h)
  · exact .inr ⟨ob, by rw [upd_ne (ne_of_none h hp)]; exact h⟩
theorem le_new (w : WS K W H S) {p : Addr} (hp : H p = none) (o : HO) (W' : Wd) (hn : W'.n = W.n) (hm : W'.μ = W.μ) (hw : W'.w = W.w) (hf : ∀ a, W.Fz a → W'.Fz a) (hf' : ∀ a, W'.Fz a → W.Fz a ∨ a = p) : Le W H W' (upd H p o) where
  keep := fun b u e _ => by rw [upd_ne (ne_of_none e hp)]; exact e
  sto := fun i hi => by
    have q := w.some hi
    have ne : W.μ i ≠ p := fun z => q (by rw [z]; exact hp)
    rw [upd_ne ne]; exact q
  n := by rw [hn]; exact Nat.le_refl _
  mu := fun i _ => by rw [hm]
  fz := hf
  fz' := fun a h => by
    rcases hf' a h with q | q
    · exact .inl q
    · rw [q]; exact .inr hp
  new := fun i h1 h2 => by rw [hn] at h2; exact absurd (Nat.lt_of_le_of_lt h1 h2) (Nat.lt_irrefl _)
  w := hw
theorem EntOk.pre {q : D × D} {x : NestedKey × Addr × Value} (p : Pre K W H W' H') (m : EntOk K W H q x) : EntOk K W' H' q x := ⟨m.key, m.rep.pre p, let ⟨v, h1, h2⟩ := m.val; ⟨v, h1, h2.pre p⟩⟩
theorem DicAt.pre {a : Addr} {kvs : List (D × D)} (p : Pre K W H W' H') (e : H' a = H a) (m : DicAt K W H a kvs) : DicAt K W' H' a kvs := by
  obtain ⟨o, es, ep, xs, h1, h2, h3, h4, h5, h6, h7, h8⟩ := m
  exact ⟨o, es, ep, xs, e.trans h1, h2, h3, h4, h5, by rw [p.w]; exact h6, h7, L2.Paired.mapP h8 fun _ _ z => z.pre p⟩
theorem MOk.pre {a : Addr} {o : MO} (p : Pre K W H W' H') (e : H' a = H a) (m : MOk K W H a o) : MOk K W' H' a o := by
  cases o with
  | lst ds => obtain ⟨vs, h, r⟩ := m; exact ⟨vs, e.trans h, r.pre p⟩
  | dic kvs => exact DicAt.pre p e m
  | ins c fs => obtain ⟨dx, gs, h, r⟩ := m; exact ⟨dx, gs, e.trans h, L2.Paired.mapP r fun _ _ z => ⟨z.nm, z.rep.pre p⟩⟩
theorem ws_new (w : WS K W H S) {p : Addr} (hp : H p = none) (o : HO) (W' : Wd) (hn : W'.n = W.n) (hm : W'.μ = W.μ) (hw : W'.w = W.w) (hf : ∀ a, W.Fz a → W'.Fz a) (hf' : ∀ a, W'.Fz a → W.Fz a ∨ a = p)
    (hl : ∀ xs, o = .lst xs → xs.length ≤ sizeLine) (ht : ∀ xs, o = .tup xs → xs.length ≤ sizeLine) (hz : ∀ ob u, o ≠ .frz ob u) : WS K W' (upd H p o) S := by
  have L := le_new w hp o W' hn hm hw hf hf'
  have P := L.pre w
  refine ⟨by rw [hn]; exact w.len, fun i m e => ?_, fun i j h1 h2 z => ?_, fun i hi f => ?_, fun a f => ?_, fun a xs h => ?_, fun a xs h => ?_⟩
  · have m1 := w.ob i m e
    rw [hm]
    refine m1.pre P ?_
    rw [upd_ne fun z => m1.some (by rw [z]; exact hp)]
  · rw [hn] at h1 h2; rw [hm] at z; exact w.inj i j h1 h2 z
  · rw [hn] at hi; rw [hm] at f
    rcases hf' _ f with q | q
    · exact w.nfz i hi q
    · exact w.some hi (by rw [q]; exact hp)
  · rcases hf' a f with q | q
    · have z := w.fz a q
      rw [upd_ne fun e => z (by rw [e]; exact hp)]; exact z
    · rw [q, upd_same]; exact fun z => by cases z
  · rcases rd_upd hp h (fun ob => hz ob _) with q | ⟨_, q⟩
    · exact w.wf a xs q
    · exact hl xs q.symm
  · rcases h with h | h
    · rcases rd_upd hp h (fun ob => hz ob _) with q | ⟨_, q⟩
      · exact w.wft a xs (.inl q)
      · exact ht xs q.symm
    · exact w.wft a xs (.inr h)

/-- what is wanted of a value that an operation gives -/
def Fin (K : PySem.W.Frag) (W : Wd) (H : Hp) (S : Sto) (d : D) (Q : VK) : Prop := ∀ W' H', Le W H W' H' → WS K W' H' S → ∀ v, Rep K W' H' d v → Q v H'
theorem Fin.same {Q : VK} (w : WS K W H S) (f : Fin K W H S d Q) (r : Rep K W H d v) : Q v H := f W H w.refl w v r
theorem Fin.tup {Q : VK} {p : Addr} (w : WS K W H S) (f : Fin K W H S (.tup ds) Q) (r : Reps K W H ds vs) (hl : vs.length ≤ sizeLine) (hp : H p = none) : Q (.ref p) (upd H p (.tup vs)) := by
  have L := le_new (K := K) w hp (.tup vs) W rfl rfl rfl (fun _ h => h) (fun _ h => .inl h)
  refine f W _ L (ws_new w hp (.tup vs) W rfl rfl rfl (fun _ h => h) (fun _ h => .inl h) (fun xs e => by cases e) (fun xs e => by cases e; exact hl) (fun _ _ e => by cases e)) _ ?_
  exact .tup (SqT.of upd_same) (r.pre (L.pre w))
theorem Fin.lst {Q : VK} {p : Addr} (w : WS K W H S) (f : Fin K W H S (.lst ds) Q) (r : Reps K W H ds vs) (hl : vs.length ≤ sizeLine) (hp : H p = none) : Q (.ref p) (upd H p (.lst vs)) := by
  have L := le_new (K := K) w hp (.lst vs) (W.add p) rfl rfl rfl (fun _ h => .inl h) (fun _ h => h)
  refine f (W.add p) _ L (ws_new w hp (.lst vs) (W.add p) rfl rfl rfl (fun _ h => .inl h) (fun _ h => h) (fun xs e => by cases e; exact hl) (fun xs e => by cases e) (fun _ _ e => by cases e)) _ ?_
  exact .lst (.inr rfl) (.inl upd_same) (r.pre (L.pre w))
theorem Fin.le {Q : VK} (l : Le W H W1 H1) (f : Fin K W H S d Q) : Fin K W1 H1 S d Q := fun W' H' l' w => f W' H' (l.trans l') w

/-! ### a frame -/
structure Ent where
  W : Wd
  H : Hp
def OwnOk (K : PySem.W.Frag) (E : Ent) (W : Wd) (H : Hp) (a : Addr) (ds : List D) : Prop := ∃ vs, H a = some (.lst vs) ∧ Reps K W H ds vs ∧ ¬ W.Fz a ∧ (∀ j, j < W.n → W.μ j ≠ a) ∧ E.H a = none
structure Rel (K : PySem.W.Frag) (E : Ent) (W : Wd) (H : Hp) (ρ : Ev) (σ : L2.St) (S : Sto) : Prop where
  ws : WS K W H S
  le : Le E.W E.H W H
  len : ρ.length = σ.length
  val : ∀ i d, getSl ρ i = .val d → ∃ v, σ[i]? = some (some v) ∧ Rep K W H d v
  own : ∀ i ds, getSl ρ i = .own ds → ∃ a, σ[i]? = some (some (.ref a)) ∧ OwnOk K E W H a ds
  apart : ∀ i j ds es a, getSl ρ i = .own ds → getSl ρ j = .own es → σ[i]? = some (some (.ref a)) → σ[j]? = some (some (.ref a)) → i = j
variable {E : Ent} {ρ ρ' : Ev} {σ σ' : L2.St}
theorem Rel.step (r : Rel K E W H ρ σ S) (l : Le W H W' H') (w : WS K W' H' S') : Rel K E W' H' ρ σ S' where
  ws := w
  le := r.le.trans l
  len := r.len
  val := fun i d e => by
    obtain ⟨v, h, q⟩ := r.val i d e
    exact ⟨v, h, q.pre (l.pre r.ws)⟩
  own := fun i ds e => by
    obtain ⟨a, h, vs, h1, h2, h3, h4, h5⟩ := r.own i ds e
    refine ⟨a, h, vs, l.keep a _ h1 h4, h2.pre (l.pre r.ws), fun f => ?_, fun j hj z => ?_, h5⟩
    · rcases l.fz' a f with q | q
      · exact h3 q
      · rw [h1] at q; cases q
    · by_cases hl : j < W.n
      · exact h4 j hl (by rw [← l.mu j hl]; exact z)
      · have q := l.new j (Nat.le_of_not_lt hl) hj
        rw [z, h1] at q; cases q
  apart := r.apart
/-- what is wanted of a reckoning -/
def Res {α : Type} (K : PySem.W.Frag) (E : Ent) (X : Str → L2.St → Hp → Prop) (W : Wd) (H : Hp) (ρ : Ev) (σ : L2.St) (r : R α) (P : α → Sto → Wd → Hp → Prop) : Prop := match r with
  | .ok a S' => ∀ W' H', Le W H W' H' → WS K W' H' S' → P a S' W' H'
  | .err c S' => ∀ W' H', Le W H W' H' → WS K W' H' S' → X c σ H'
  | .bad => False
theorem Res.le {α : Type} {X : Str → L2.St → Hp → Prop} {r : R α} {P : α → Sto → Wd → Hp → Prop} (l : Le W H W1 H1) (h : Res K E X W H ρ σ r P) : Res K E X W1 H1 ρ σ r P := by
  cases r with
  | ok a S' => exact fun W' H' l' w => h W' H' (l.trans l') w
  | err c S' => exact fun W' H' l' w => h W' H' (l.trans l') w
  | bad => exact h
theorem Res.bind {α β : Type} {X : Str → L2.St → Hp → Prop} {r : R α} {f : α → Sto → R β} {P : β → Sto → Wd → Hp → Prop} (h : Res K E X W H ρ σ (r.bind f) P) : Res K E X W H ρ σ r fun a S1 W1 H1 => Res K E X W1 H1 ρ σ (f a S1) P := by
  cases r with
  | ok a S' => exact fun W' H' l w => Res.le (ρ := ρ) l (show Res K E X W H ρ σ (f a S') P from h)
  | err c S' => exact h
  | bad => exact h
theorem Res.mono {α : Type} {X : Str → L2.St → Hp → Prop} {r : R α} {P P' : α → Sto → Wd → Hp → Prop} (h : Res K E X W H ρ σ r P) (f : ∀ a S' W' H', Le W H W' H' → WS K W' H' S' → P a S' W' H' → P' a S' W' H') : Res K E X W H ρ σ r P' := by
  cases r with
  | ok a S' => exact fun W' H' l w => f _ _ _ _ l w (h W' H' l w)
  | err c S' => exact h
  | bad => exact h
theorem Res.opt {α : Type} {X : Str → L2.St → Hp → Prop} {o : Option α} {P : α → Sto → Wd → Hp → Prop} (h : Res K E X W H ρ σ (R.opt o S) P) : ∃ a, o = some a ∧ Res K E X W H ρ σ (.ok a S) P := by
  cases o with
  | none => exact False.elim h
  | some a => exact ⟨a, rfl, h⟩

/-! ### readings -/
variable (K E) (X : Str → L2.St → Hp → Prop)
def tE (f : Ev → Sto → R D) : TE := fun σ H Q => ∃ W ρ S, Rel K E W H ρ σ S ∧ Res K E X W H ρ σ (f ρ S) fun d _ W' H' => ∀ v, Rep K W' H' d v → Q v H'
def tT (f : Ev → Sto → R D) : TE := fun σ H Q => ∃ W ρ S, Rel K E W H ρ σ S ∧ Res K E X W H ρ σ (f ρ S) fun d _ W' H' => ∀ v, RepT K W' H' d v → Q v H'
def tA (f : Ev → Sto → R (List D)) : TA := fun σ H Q => ∃ W ρ S, Rel K E W H ρ σ S ∧ Res K E X W H ρ σ (f ρ S) fun ds _ W' H' => ∀ vs, Reps K W' H' ds vs → Q vs H'
def tTs (f : Ev → Sto → R (List D)) : TA := fun σ H Q => ∃ W ρ S, Rel K E W H ρ σ S ∧ Res K E X W H ρ σ (f ρ S) fun ds _ W' H' => ∀ vs, RepTs K W' H' ds vs → Q vs H'
def tBl (f : Ev → Sto → R Bool) : TT := fun σ H Q => ∃ W ρ S, Rel K E W H ρ σ S ∧ Res K E X W H ρ σ (f ρ S) fun b _ W' H' => Q b H'
/-- what is walked -/
def Walk (W : Wd) (H : Hp) (ds : List D) (J : It) : Prop := ∀ W1 H1 S1, Pre K W H W1 H1 → WS K W1 H1 S1 →
  (∀ i d, ds[i]? = some d → J.go i H1 ∧ ∀ x H2, J.yld i H1 x H2 → ∃ W2, Le W1 H1 W2 H2 ∧ WS K W2 H2 S1 ∧ Rep K W2 H2 d x) ∧ J.stop ds.length H1
def tI (f : Ev → Sto → R (List D)) : TI := fun σ H Q => ∃ W ρ S, Rel K E W H ρ σ S ∧ Res K E X W H ρ σ (f ρ S) fun ds _ W' H' => ∀ J, Walk K W' H' ds J → Q J H'
end
theorem _root_.L2.PE.wk {X : Cx} {e : Expr} {t t' : TE} (h : PE X e t) (w : ∀ σ H Q, t' σ H Q → t σ H Q) : PE X e t' := ⟨fun pins s σ H Q I q => h.run pins s σ H Q I (w σ H Q q)⟩
theorem _root_.L2.PT.wk {X : Cx} {e : Expr} {t t' : TT} (h : PT X e t) (w : ∀ σ H Q, t' σ H Q → t σ H Q) : PT X e t' := ⟨fun pins s σ H Q I q => h.run pins s σ H Q I (w σ H Q q)⟩
theorem _root_.L2.PW.wk {X : Cx} {e : Expr} {t t' : TT} (h : PW X e t) (w : ∀ σ H Q, t' σ H Q → t σ H Q) : PW X e t' := ⟨fun wh pins s σ H Q I q => h.run wh pins s σ H Q I (w σ H Q q)⟩
theorem _root_.L2.PA.wk {X : Cx} {e : List Expr} {t t' : TA} (h : PA X e t) (w : ∀ σ H Q, t' σ H Q → t σ H Q) : PA X e t' := ⟨fun pos pins s σ H Q I q => h.run pos pins s σ H Q I (w σ H Q q)⟩
theorem _root_.L2.PS.wk {X : Cx} {e : Stmt} {t t' : TS} (h : PS X e t) (w : ∀ D σ H, t' D σ H → t D σ H) : PS X e t' := ⟨fun pins s σ H D I q => h.run pins s σ H D I (w D σ H q)⟩
theorem _root_.L2.PSs.wk {X : Cx} {e : List Stmt} {t t' : TS} (h : PSs X e t) (w : ∀ D σ H, t' D σ H → t D σ H) : PSs X e t' := ⟨fun pins s σ H D I q => h.run pins s σ H D I (w D σ H q)⟩
theorem _root_.L2.PI.wk {X : Cx} {tg e : Expr} {t t' : TI} (h : PI X tg e t) (w : ∀ σ H Q, t' σ H Q → t σ H Q) : PI X tg e t' := ⟨fun pins s σ H R I q => h.run pins s σ H R I (w σ H R q)⟩
end Lw
set_option maxHeartbeats 1000000
/-! LwY: sorted(a tuple), over the heap: the library has sorted(a list). -/
namespace Lw
open PySem PySem.Spec PyProof.Rows PySem.W
section
variable {pr : Program} {wo : World} {Ar : Around} {Er : Value → Shared → Prop} {st : Shared}
theorem gather_tup {p : Addr} {us : List Value} {P : List Value → Shared → Prop} (ht : st.heap.IsTuple p us.toArray) (small : us.length ≤ sizeLine)
    (q : P us { st with heap := (st.heap.push (seqObj "list" #[] 0)).update st.heap.objs.size (Obj.mapSeq (· ++ us.toArray)) }) :
    wpAny (model pr wo) Ar (collect (.ref p)) P Er st := by
  obtain ⟨ob, g1, g2, k, g3⟩ := id ht
  unfold collect
  apply wpAny_bind
  apply wpAny_runValue
  apply codeAny_builtin entry_proto_collect'
  show wpAny _ _ (do again (.builtin "list.__iadd__" ⟨[← newList [], .ref p], []⟩)) _ _ st
  apply wpAny_bind
  refine wpAny_newList ?_ (Nat.zero_le _)
  apply wpAny_pure
  refine ⟨Code.quiet_builtin _ (by decide +kernel), ?_⟩
  apply codeAny_builtin entry_list_iadd'
  show wpAny _ _ (Builtin.List.listExtendWith (.ref st.heap.objs.size) (.ref p) (.ref st.heap.objs.size)) _ _ { st with heap := st.heap.push (seqObj "list" #[] 0) }
  unfold Builtin.List.listExtendWith
  have g1' := Heap.get?_push_of_some (seqObj "list" #[] 0) g1
  refine wpAny_bind (wpAny_typeOf (T := "tuple") ⟨ob, g1', g2⟩ ?_)
  rw [if_pos (by rw [show (Value.type "tuple" == Value.type "tuple") = true from rfl]; simp)]
  have new : (st.heap.push (seqObj "list" #[] 0)).get? st.heap.objs.size = some (seqObj "list" #[] 0) := Heap.get?_push_size _ rfl
  refine wpAny_bind (listItems_at g1' g3 ?_)
  refine wpAny_bind (listItems_at new rfl ?_)
  rw [if_neg (by simp)]
  have fits : (#[] ++ us.toArray : Array Value).size ≤ sizeLine + 1 := by
    rw [Array.size_append, List.size_toArray]
    show 0 + us.length ≤ _
    omega
  refine wpAny_bind (listUpdate_at new rfl ?_ (Nat.zero_le _) fits)
  apply wpAny_pure
  show wpAny (model pr wo) Ar (load st.heap.objs.size >>= _) P Er _
  refine wpAny_bind (wpAny_load (get?_update_seq new _) ?_)
  have e : ((#[] : Array Value) ++ us.toArray).toList = us := by simp
  show wpAny _ _ (pure ((#[] : Array Value) ++ us.toArray).toList) P Er _
  rw [e]
  exact wpAny_pure q
/-- sorted(t), t a tuple of data -/
theorem sorted_tup {β : Type} {en : β → PyData} {Rr : Value → β → Prop} {us : List Value} {xs : List β} {p : Addr} {P : Value → Shared → Prop} (ht : st.heap.IsTuple p us.toArray) (e : EachIs Rr us xs) (er : EachIs (fun v b => ∃ as, Reads st.heap v (en b) as) us xs)
    (al : AllAlike (xs.map en)) (so : Sortable (xs.map en)) (small : xs.length ≤ sizeLine) (room : ∀ b, b ∈ xs → Ar.units + 2 + (en b).depth < cLine)
    (q : ∀ out, out.length = xs.length → EachIs Rr out (xs.mergeSort (dataLe false en)) → P (.ref (st.heap.objs.size + 1)) { st with heap := sortedAll st.heap us (List.toArray out) }) :
    wpAny (model pr wo) Ar (call (.builtin "sorted") [.ref p]) P Er st := by
  have small' : us.length ≤ sizeLine := by rw [e.length]; exact small
  have er' : EachIs (fun v b => ∃ as, Reads (sortingHeap (copyHeap st.heap us) (st.heap.objs.size + 1) us) v (en b) as) us xs := by
    refine er.mono fun _ _ z => ?_
    obtain ⟨as, r⟩ := z
    exact ⟨as, PyProof.Rows.Reads.keeps (fun _ _ => sorting_copy_old) r⟩
  apply call_function_entry_kw kind_sorted plain_sorted entry_sorted (args_sorted1 _)
  unfold Builtin.«sorted»
  refine wpAny_bind (m := checkCount "sorted" 1 1 _) ?_
  apply wpAny_pure
  refine wpAny_bind (gather_tup ht small' ?_)
  refine wpAny_bind (wpAny_newList ?_ small')
  have sz : ((st.heap.push (seqObj "list" #[] 0)).update st.heap.objs.size (Obj.mapSeq (· ++ us.toArray))).objs.size = st.heap.objs.size + 1 := by
    rw [Heap.size_update]
    exact size_push' ..
  show wpAny _ _ _ _ _ { st with heap := copyHeap st.heap us }
  rw [sz]
  refine wpAny_bind (wpAny_holding (wpAny_call_entry_kw slot_list_sort ⟨_, copyHeap_at st.heap us, rfl⟩ entry_list_sort ?_ (args_list_sort _)))
  show wpAny (model pr wo) Ar.in1.in1 (Builtin.«list.sort» ⟨[.ref (st.heap.objs.size + 1)], []⟩) _ _ { st with heap := copyHeap st.heap us }
  have S := SortsAt.data (prog := pr) (w := wo) (A := Ar.in1.in1) (s := { st with heap := sortingHeap (copyHeap st.heap us) (st.heap.objs.size + 1) us }) (each_map (R := fun v d => ∃ as, Reads (sortingHeap (copyHeap st.heap us) (st.heap.objs.size + 1) us) v d as) en er') al so (bound_map room)
  refine list_sort_vals (s := { st with heap := copyHeap st.heap us }) (copyHeap_at st.heap us) S small' ?_
  refine ⟨_, rfl, ?_⟩
  apply wpAny_pure
  exact ⟨_, rfl, q _ (by rw [sortVals_length false rfl]; exact e.length) (sortVals_data false e er' al)⟩
end
end Lw
set_option maxHeartbeats 2000000
/-! LwO: dicts of the store whose keys are tuples (nested ones, too). -/
namespace Lw
open PySem PySem.Spec PyProof.Rows L2
section
variable {K : PySem.W.Frag} {W W' : Wd} {H H' : Hp} {S : Sto} {X : Cx} {pins : List (Addr × Obj)} {σ : L2.St} {s : Shared}
theorem keyD_some {d : D} {k : NestedKey} (h : keyD d = some k) : (∃ ds, d = .tup ds) ∧ nk d = some k ∧ k.depth ≤ 8 := by
  unfold keyD at h
  split at h
  · split at h
    · split at h
      · cases h
        rename_i e q
        exact ⟨⟨_, rfl⟩, e, q⟩
      · cases h
    · cases h
  · cases h
mutual
theorem rep_nested (I : Inv X pins σ H s) : ∀ {d : D} {v : V} {u : Value} {k : NestedKey}, Rep X.K W H d v → RelV v u → nk d = some k → NestedIs s.heap k u
  | _, _, _, _, .non, rv, e => by
    cases e
    cases (show _ = Value.none from rv)
    exact .none
  | _, _, _, _, .bl b, _, e => by simp [nk] at e
  | _, _, _, _, .int i, rv, e => by
    cases e
    obtain ⟨t, rfl⟩ := rv
    exact .int i t
  | _, _, _, _, .str x, rv, e => by
    cases e
    obtain ⟨t, rfl⟩ := rv
    exact .text x t
  | .tup ds, _, _, _, .tup h r, rv, e => by
    obtain ⟨ks, e1, rfl⟩ := Option.map_eq_some_iff.mp (show (nks ds).map NestedKey.tup = some _ from e)
    cases (show _ = Value.ref _ from rv)
    obtain ⟨its, r1, it, _⟩ := I.tuple h
    obtain ⟨o, h1, h2, n, h3⟩ := it
    exact .tup h1 h2 h3 (by
      have q := reps_nested I r r1 e1
      simpa using q)
  | _, _, _, _, .lst _ _ _, _, e => by simp [nk] at e
  | _, _, _, _, .ref _, _, e => by simp [nk] at e
  | _, _, _, _, .dic _ _, _, e => by simp [nk] at e
theorem reps_nested (I : Inv X pins σ H s) : ∀ {ds : List D} {vs : List V} {us : List Value} {ks : List NestedKey}, Reps X.K W H ds vs → Vals vs us → nks ds = some ks → NestedAll s.heap ks us
  | _, _, _, _, .nil, .nil, e => by cases e; exact .nil
  | _, _, _, _, .cons (d := d) (ds := ds) r t, .cons q qs, e => by
    obtain ⟨k, e1, e2⟩ := Option.bind_eq_some_iff.mp (show (nk d).bind (fun k => (nks ds).map fun ks => k :: ks) = some _ from e)
    obtain ⟨ks', e3, rfl⟩ := Option.map_eq_some_iff.mp e2
    exact .cons (rep_nested I r q e1) (reps_nested I t qs e3)
end
theorem key_is (I : Inv X pins σ H s) {d : D} {k : NestedKey} {b : Addr} (h : keyD d = some k) (r : Rep X.K W H d (.ref b)) : (nestedKind X.prog X.w).is s.heap k b := by
  obtain ⟨_, h1, h2⟩ := keyD_some h
  exact ⟨rep_nested I r (show RelV (.ref b) (.ref b) from rfl) h1, h2⟩
theorem ents_is (I : Inv X pins σ H s) : ∀ {kvs : List (D × D)} {xs : List (NestedKey × Addr × Value)}, Paired (EntOk X.K W H) kvs xs → ∀ x ∈ xs, (nestedKind X.prog X.w).is s.heap x.1 x.2.1
  | _, _, .nil, x, hx => by cases hx
  | _, _, .cons r t, x, hx => by
    rcases List.mem_cons.mp hx with e | hx
    · rw [e]; exact key_is I r.key r.rep
    · exact ents_is I t x hx
theorem get_none : ∀ {kvs : List (D × D)} {xs : List (NestedKey × Addr × Value)} {k : NestedKey}, Paired (EntOk K W H) kvs xs → getKV kvs k = none → atKey xs k = none
  | _, _, _, .nil, _ => rfl
  | p :: kvs, x :: xs, k, .cons r t, e => by
    have h1 := (keyD_some r.key).2.1
    by_cases hk : x.1 = k
    · simp [getKV, List.find?_cons, h1, hk] at e
    · have h2 : ¬ nk p.1 = some k := fun z => hk (Option.some.inj (h1.symm.trans z))
      have e2 : getKV kvs k = none := by simpa [getKV, List.find?_cons, h2] using e
      have := get_none t e2
      simpa [atKey, List.find?_cons, hk] using this
theorem get_some : ∀ {kvs : List (D × D)} {xs : List (NestedKey × Addr × Value)} {k : NestedKey} {d : D}, Paired (EntOk K W H) kvs xs → getKV kvs k = some d → ∃ p, atKey xs k = some p ∧ ∃ v, RelV v p.2 ∧ Rep K W H d v
  | _, _, _, _, .nil, e => by simp [getKV] at e
  | p :: kvs, x :: xs, k, d, .cons r t, e => by
    have h1 := (keyD_some r.key).2.1
    by_cases hk : x.1 = k
    · have e2 : p.2 = d := by simpa [getKV, List.find?_cons, h1, hk] using e
      subst e2
      exact ⟨x.2, by simp [atKey, List.find?_cons, hk], r.val⟩
    · have h2 : ¬ nk p.1 = some k := fun z => hk (Option.some.inj (h1.symm.trans z))
      have e2 : getKV kvs k = some d := by simpa [getKV, List.find?_cons, h2] using e
      obtain ⟨q, q1, q2⟩ := get_some t e2
      exact ⟨q, by simpa [atKey, List.find?_cons, hk] using q1, q2⟩
theorem get_any : ∀ {kvs : List (D × D)} {xs : List (NestedKey × Addr × Value)} {k : NestedKey}, Paired (EntOk K W H) kvs xs → (kvs.any fun p => decide (nk p.1 = some k)) = (atKey xs k).isSome
  | _, _, _, .nil => rfl
  | p :: kvs, x :: xs, k, .cons r t => by
    have h1 := (keyD_some r.key).2.1
    by_cases hk : x.1 = k
    · simp [atKey, List.find?_cons, hk, h1]
    · have h2 : ¬ nk p.1 = some k := fun z => hk (Option.some.inj (h1.symm.trans z))
      have := get_any (k := k) t
      simp only [List.any_cons, decide_eq_false h2, Bool.false_or, this]
      simp [atKey, List.find?_cons, hk]
theorem get_isSome (kvs : List (D × D)) (k : NestedKey) : (getKV kvs k).isSome = kvs.any fun p => decide (nk p.1 = some k) := by
  induction kvs with
  | nil => rfl
  | cons p kvs ih =>
    by_cases h : nk p.1 = some k
    · simp [getKV, List.find?_cons, h]
    · simpa [getKV, List.find?_cons, h] using ih
theorem put_rel {k : NestedKey} {d v : D} {b : Addr} {u : Value} (hd : keyD d = some k) (hr : Rep K W H d (.ref b)) (hv : ∃ w, RelV w u ∧ Rep K W H v w) {kvs : List (D × D)} {xs : List (NestedKey × Addr × Value)} (r : Paired (EntOk K W H) kvs xs) :
    Paired (EntOk K W H) (putKV kvs k d v) (storedH xs k b u) := by
  unfold putKV storedH
  rw [get_any r]
  cases (atKey xs k).isSome with
  | true =>
    rw [if_pos rfl, if_pos rfl]
    induction r with
    | nil => exact .nil
    | @cons p x kvs xs r t ih =>
      refine .cons ?_ ih
      have h1 := (keyD_some r.key).2.1
      show EntOk K W H (if nk p.1 = some k then (p.1, v) else p) (putAt k u x)
      by_cases hk : x.1 = k
      · have h2 : nk p.1 = some k := by rw [h1, hk]
        rw [if_pos h2, putAt, if_pos hk]
        exact ⟨r.key, r.rep, hv⟩
      · have h2 : ¬ nk p.1 = some k := fun z => hk (Option.some.inj (h1.symm.trans z))
        rw [if_neg h2, putAt, if_neg hk]
        exact r
  | false =>
    rw [if_neg (by simp), if_neg (by simp)]
    induction r with
    | nil => exact .cons ⟨hd, hr, hv⟩ .nil
    | cons r t ih => exact .cons r ih
theorem put_len (kvs : List (D × D)) (k : NestedKey) (d v : D) : (putKV kvs k d v).length ≤ kvs.length + 1 := by
  unfold putKV
  split
  · rw [List.length_map]; omega
  · rw [List.length_append, List.length_singleton]; exact Nat.le_refl _
/-- the dict, found in the heap -/
theorem DicAt.heap {a : Addr} {kvs : List (D × D)} (I : Inv X pins σ H s) (hw : W.w = X.w) (m : DicAt X.K W H a kvs) : (a == sysModules) = false ∧ kvs.length ≤ sizeLine ∧ ∃ xs, Paired (EntOk X.K W H) kvs xs ∧ s.heap.DictOfH (nestedKind X.prog X.w) a xs := by
  obtain ⟨o, es, ep, xs, h1, h2, h3, h4, h5, h6, h7, h8⟩ := m
  have q := I.hok a _ h1
  rw [hw] at h6
  exact ⟨h4, h5, xs, h8, o, es, ep, q.1, h2, h3, h6, ents_is I h8, h7⟩
theorem room_n (hu : X.A.units + 65 < cLine) : (nestedKind X.prog X.w).room X.A.in1 := by
  show X.A.units + 1 + 8 < cLine
  omega
theorem dct_in {a : Addr} {kvs : List (D × D)} {d : D} {k : NestedKey} {b : Addr} {Q : VK} (hu : X.A.units + 65 < cLine) (I : Inv X pins σ H s) (hw : W.w = X.w) (m : DicAt X.K W H a kvs) (hd : keyD d = some k) (hr : Rep X.K W H d (.ref b)) (neg : Bool)
    (q : Q (.bl (if neg then !(getKV kvs k).isSome else (getKV kvs k).isSome)) H) : wpAny (model X.prog X.w) X.A (compareOp (if neg then .NotIn else .In) (.ref b) (.ref a)) (EP X pins σ Q) X.xe s := by
  obtain ⟨hs, hl, xs, p, dd⟩ := m.heap I hw
  rw [get_isSome, get_any p] at q
  have e : ∀ k, (valueAt (pairsH xs) k).isSome = (atKey xs k).isSome := fun k => by rw [valueAt_pairsH, Option.isSome_map]
  cases neg with
  | false =>
    refine in_keyed (room_n hu) (key_is I hd hr) hs ⟨xs, dd, rfl⟩ ?_
    rw [e]
    exact ⟨.bl _, H, I.tok _, rfl, q⟩
  | true =>
    refine notIn_keyed (room_n hu) (key_is I hd hr) hs ⟨xs, dd, rfl⟩ ?_
    rw [e]
    exact ⟨.bl _, H, I.tok _, rfl, q⟩
theorem dct_get {a : Addr} {kvs : List (D × D)} {d x : D} {k : NestedKey} {b : Addr} {Q : VK} (hu : X.A.units + 65 < cLine) (I : Inv X pins σ H s) (hw : W.w = X.w) (m : DicAt X.K W H a kvs) (hd : keyD d = some k) (hr : Rep X.K W H d (.ref b)) (hx : getKV kvs k = some x)
    (q : ∀ v, Rep X.K W H x v → Q v H) : wpAny (model X.prog X.w) X.A (getItem (.ref a) (.ref b)) (EP X pins σ Q) X.xe s := by
  obtain ⟨hs, hl, xs, p, dd⟩ := m.heap I hw
  obtain ⟨y, hy, v, rv, rep⟩ := get_some p hx
  exact wpAny_getItem_heap (room_n hu) (key_is I hd hr) dd hy ⟨v, H, I.tok _, rv, q v rep⟩
theorem ext_ok {P : Program} {w : World} {h : Heap} {a : Addr} {o : Obj} (e : h.get? a = some o) : ObjOk P w H h a (.ext fun h => h.get? a = some o) := ⟨e, ⟨_, e⟩, fun h1 h2 e1 k => k _ e1⟩
end
end Lw
set_option maxHeartbeats 1000000
/-! LwC: the operations, by data. -/
namespace Lw
open PySem PySem.Spec PyProof.Rows L2
theorem tuple_mulS (l : Addr) (items : Array Value) (n : Nat) (dd : Option Addr) (sl : Array (Option Value)) (x : Int) (u : Tok) (c0 : (decide (x < -(2 ^ 63)) || decide (x ≥ 2 ^ 63)) = false) (c1 : (items.isEmpty || x == 1) = true) :
    Meets (Builtin.«tuple.__mul__» ⟨[.ref l, .int x u], []⟩) (fun _ R s => s.heap.get? l = some { cls := .type "tuple", dict := dd, data := .seq items n, slots := sl } ∧ R (.ok (.ret (Value.ref l))) s) :=
  .of_wp fun prog w A R s h => by
    obtain ⟨hp, g, d, tk, os⟩ := s
    obtain ⟨hl, h⟩ := h
    have f1 := AutoSeq1.idx_int
    wp_walk using wpAny_loadPart' hl
    refine wpAny_ite_false (decide_eq_false (by rw [c0]; exact Bool.false_ne_true)) ?_
    wp_walk using wpAny_loadPart' hl
    exact ⟨_, rfl, h⟩
theorem tuple_mulZ (l : Addr) (items : Array Value) (n : Nat) (dd : Option Addr) (sl : Array (Option Value)) (x : Int) (u : Tok) (c0 : (decide (x < -(2 ^ 63)) || decide (x ≥ 2 ^ 63)) = false) (c1 : (items.isEmpty || x == 1) = false) (c2 : (decide (x ≤ 0) || items.isEmpty) = true) :
    Meets (Builtin.«tuple.__mul__» ⟨[.ref l, .int x u], []⟩) (fun _ R s => s.heap.get? l = some { cls := .type "tuple", dict := dd, data := .seq items n, slots := sl } ∧
      R (.ok (.ret (Value.ref s.heap.objs.size))) { s with heap := s.heap.push { cls := Value.type "tuple", data := Data.seq #[] }, toks := s.toks }) :=
  .of_wp fun prog w A R s h => by
    obtain ⟨hp, g, d, tk, os⟩ := s
    obtain ⟨hl, h⟩ := h
    have f1 := AutoSeq1.idx_int
    wp_walk using wpAny_loadPart' hl
    refine wpAny_ite_false (decide_eq_false (by rw [c0]; exact Bool.false_ne_true)) ?_
    wp_walk using wpAny_loadPart' hl
    repeat (first
      | (refine wpAny_ite_false (decide_eq_false (by rw [c1]; exact Bool.false_ne_true)) ?_; wp_walk using wpAny_loadPart' hl)
      | (refine wpAny_ite_true (decide_eq_true c2) ?_; wp_walk using wpAny_loadPart' hl))
    exact ⟨_, rfl, h⟩
def rRepS (K : PySem.W.Frag) : R2 := fun x y H Q => ∃ l k xs, x = .ref l ∧ y = .int k ∧ SqT K H l xs ∧ -1000 ≤ k ∧ k ≤ 1000 ∧ ((xs = [] ∨ k = 1) ∧ Q (.ref l) H ∨ xs ≠ [] ∧ k ≤ 0 ∧ ∀ p, H p = none → Q (.ref p) (upd H p (.tup [])))
section
variable {X : Cx}
theorem op_repS : OpR X (binaryOp .Mult) (rRepS X.K) := by
  intro pins s σ H x y v u Q I rx ry h
  obtain ⟨l, k, xs, rfl, rfl, hT, h1, h2, q⟩ := h
  cases rx
  obtain ⟨t, rfl⟩ := ry
  obtain ⟨its, r, ⟨⟨cls, dd, data, sl⟩, ho, hc, n, hd⟩, hs⟩ := I.tuple hT
  simp only at hc hd
  subst hc hd
  have hle : its.length = xs.length := r.length.symm
  have c0 : (decide (k < -(2 ^ 63)) || decide (k ≥ 2 ^ 63)) = false := by
    rw [decide_eq_false (by omega), decide_eq_false (by omega)] <;> rfl
  rcases q with ⟨z, q⟩ | ⟨hne, hk, q⟩
  · have c1 : (its.toArray.isEmpty || k == 1) = true := by
      rcases z with z | z
      · subst z
        have : its = [] := List.eq_nil_of_length_eq_zero (by rw [hle]; rfl)
        subst this
        rfl
      · subst z
        exact Bool.or_true _
    exact wpAny_binaryOp_repeat_ref (T := "tuple") (U := "int") (by decide) ⟨_, ho, rfl⟩ (fun s' => typeIs_int s' k t) noFill_tuple_mul F.fills_int_mul F.slot_int_rmul repeat_tuple F.slot_int_index.lookup
      (call_meets F.slot_int_rmul (typeIs_int s k t) F.entry_int_rmul (F.args_int_rmul_2 _ _) (int_rmul_tuple k t l its.toArray n dd sl)
        ⟨ho, rfl, ⟨_, ho, rfl⟩, call_meets F.slot_tuple_mul ⟨_, ho, rfl⟩ F.entry_tuple_mul (F.args_tuple_mul_2 _ _) (tuple_mulS l its.toArray n dd sl k t c0 c1) ⟨ho, ⟨.ref l, H, I, rfl, q⟩⟩⟩)
  · have hn : its ≠ [] := fun e => hne (by
      rw [e] at hle
      exact List.eq_nil_of_length_eq_zero hle.symm)
    have hi : its.toArray.isEmpty = false := by
      cases its with
      | nil => exact absurd rfl hn
      | cons a b => rfl
    have c1 : (its.toArray.isEmpty || k == 1) = false := by
      rw [hi, Bool.false_or]
      exact beq_eq_false_iff_ne.mpr (by omega)
    have c2 : (decide (k ≤ 0) || its.toArray.isEmpty) = true := by
      rw [decide_eq_true hk, Bool.true_or]
    refine wpAny_binaryOp_repeat_ref (T := "tuple") (U := "int") (by decide) ⟨_, ho, rfl⟩ (fun s' => typeIs_int s' k t) noFill_tuple_mul F.fills_int_mul F.slot_int_rmul repeat_tuple F.slot_int_index.lookup
      (call_meets F.slot_int_rmul (typeIs_int s k t) F.entry_int_rmul (F.args_int_rmul_2 _ _) (int_rmul_tuple k t l its.toArray n dd sl)
        ⟨ho, rfl, ⟨_, ho, rfl⟩, call_meets F.slot_tuple_mul ⟨_, ho, rfl⟩ F.entry_tuple_mul (F.args_tuple_mul_2 _ _) (tuple_mulZ l its.toArray n dd sl k t c0 c1 c2) ⟨ho, ?_⟩⟩)
    refine ⟨.ref s.heap.objs.size, _, I.laid (t' := s.toks) (o := .tup []) (fun b ob q => Heap.get?_push_of_some _ q) (Nat.le_refl _) ?_, rfl, q _ (I.hok.fresh (Nat.le_refl _))⟩
    exact ⟨Nat.zero_le _, _, .nil, IsTup.new _ _⟩
end
section
variable {X : Cx} {W : Wd} {H : Hp} {S : Sto} {K : PySem.W.Frag}
theorem size_line : sizeLine = LINE := sizeLine_eq
theorem See.len {ds : List D} {v : V} (w : WS K W H S) (h : See K W H (.tup ds) v) : ∃ a vs, v = .ref a ∧ SqT K H a vs ∧ Reps K W H ds vs ∧ ds.length = vs.length ∧ vs.length ≤ sizeLine := by
  cases h with
  | tup h r => exact ⟨_, _, rfl, h, r, r.length, w.wft _ _ h⟩
theorem See.lenL {ds : List D} {v : V} (w : WS K W H S) (h : See K W H (.lst ds) v) : ∃ a vs, v = .ref a ∧ Rd H a (.lst vs) ∧ Reps K W H ds vs ∧ ds.length = vs.length ∧ vs.length ≤ sizeLine := by
  cases h with
  | lst h r => exact ⟨_, _, rfl, h, r, r.length, w.wf _ _ h⟩
theorem lstR {pins : List (Addr × Obj)} {s : Shared} {σ : L2.St} {l : Addr} {xs : List V} (I : Inv X pins σ H s) (hH : Rd H l (.lst xs)) : ∃ (its : List Value) (n : Nat), Vals xs its ∧ xs.length = its.length ∧ s.heap.get? l = some { cls := .type "list", data := .seq its.toArray n } := by
  obtain ⟨z, its, n, r, e⟩ := hH.ok I.hok
  exact ⟨its, n, r, r.length, e⟩
theorem flat_nil {α : Type} : ∀ n : Nat, (List.replicate n ([] : List α)).flatten = []
  | 0 => rfl
  | n + 1 => by rw [List.replicate_succ, List.flatten_cons, List.nil_append]; exact flat_nil n
theorem whichK {k : Int} (_ : -1000 ≤ k) : k = 1 ∨ k ≤ 0 ∨ 2 ≤ k := by omega
theorem Reps.times {ds : List D} {vs : List V} (r : Reps K W H ds vs) : ∀ n : Nat, Reps K W H (List.replicate n ds).flatten (List.replicate n vs).flatten
  | 0 => .nil
  | n + 1 => by
    rw [List.replicate_succ, List.replicate_succ, List.flatten_cons, List.flatten_cons]
    exact r.append (Reps.times r n)
/-- list + list, of any that are read -/
def rCatR : R2 := fun x y H Q => ∃ l b xs zs, x = .ref l ∧ y = .ref b ∧ Rd H l (.lst xs) ∧ Rd H b (.lst zs) ∧ xs.length + zs.length ≤ sizeLine ∧ ∀ p, H p = none → Q (.ref p) (upd H p (.lst (xs ++ zs)))
theorem op_catR : OpR X (binaryOp .Add) rCatR := by
  intro pins s σ H x y v u Q I rx ry h
  obtain ⟨l, b, xs, zs, rfl, rfl, hH, hB, hz, q⟩ := h
  cases rx
  cases ry
  obtain ⟨its, n, r, hl, e⟩ := lstR I hH
  obtain ⟨its2, n2, r2, hl2, e2⟩ := lstR I hB
  refine PySem.P.add_list e e2 ?_ (by rw [List.size_toArray, List.size_toArray]; omega)
  have ea : its.toArray ++ its2.toArray = (its ++ its2).toArray := by simp
  rw [ea]
  exact ⟨.ref _, _, I.lnew (t' := s.toks) (r.append r2) (by rw [List.length_append]; omega), rfl, q _ I.fresh⟩

theorem foldl_app {α : Type} : ∀ (l : List (Array α)) (a : Array α), (l.foldl (· ++ ·) a).toList = a.toList ++ (l.map Array.toList).flatten
  | [], a => by simp
  | x :: l, a => by
    rw [List.foldl_cons, foldl_app l (a ++ x)]
    simp
theorem strMul_eq (x : Str) (n : Nat) : (⟨(List.replicate n x.cps).foldl (· ++ ·) #[]⟩ : Str) = strMul x n := by
  unfold strMul
  congr 1
  apply Array.toList_inj.mp
  rw [foldl_app]
  simp
/-- text * int -/
def rMulS : R2 := fun x y H Q => ∃ (a : Str) (k : Int), x = .str a ∧ y = .int k ∧ -1000 ≤ k ∧ k ≤ 1000 ∧ a.length ≤ 1000 ∧ Q (.str (strMul a k.toNat)) H
theorem op_mulS : OpR X (binaryOp .Mult) rMulS := by
  intro pins s σ H x y v u Q I rx ry h
  obtain ⟨a, k, rfl, rfl, h1, h2, h3, q⟩ := h
  obtain ⟨t, rfl⟩ := rx
  obtain ⟨t2, rfl⟩ := ry
  refine P.mul_str (by rw [decide_eq_false (by omega), decide_eq_false (by omega)]; rfl) (fun g1 _ => ?_) (fun g1 _ => ?_) ?_
  · have g2 : (2 ^ 63 - 1 : Int) / 1000 ≤ (2 ^ 63 - 1) / k := by
      have gk : 1 ≤ k := by omega
      exact Int.le_ediv_of_mul_le (by omega) (by
        have : (2 ^ 63 - 1 : Int) / 1000 * k ≤ (2 ^ 63 - 1 : Int) / 1000 * 1000 := Int.mul_le_mul_of_nonneg_left h2 (by decide)
        exact Int.le_trans this (by decide))
    have g3 : (a.length : Int) ≤ 1000 := by omega
    have g4 : (1000 : Int) ≤ (2 ^ 63 - 1) / 1000 := by decide
    omega
  · have g4 : a.length * k.toNat ≤ 1000 * 1000 := Nat.mul_le_mul h3 (by omega)
    have g5 : ¬ sizeLine < a.length * k.toNat := by rw [size_line]; have : (1000 * 1000 : Nat) ≤ LINE := by decide
                                                    omega
    exact decide_eq_false g5
  · have e0 : ∀ z : Str, z = strMul a k.toNat → ∀ t : Tok, ∀ s', Inv X pins σ H s' → EP X pins σ Q (.str z t) s' := fun z e t s' I' => ⟨.str z, H, I', ⟨t, rfl⟩, by rw [e]; exact q⟩
    by_cases c1 : k < 1
    · rw [if_pos c1]
      have z : k.toNat = 0 := by omega
      exact ⟨by decide, e0 _ (by rw [z]; rfl) _ _ (I.tok _)⟩
    · rw [if_neg c1]
      by_cases c2 : (k == 1 || a.length == 0) = true
      · rw [if_pos c2]
        refine e0 _ ?_ _ _ I
        rcases Bool.or_eq_true_iff.mp c2 with c | c
        · have z : k.toNat = 1 := by have := beq_iff_eq.mp c; omega
          rw [z]
          unfold strMul
          cases a; simp
        · have z : a.cps = #[] := Array.eq_empty_of_size_eq_zero (beq_iff_eq.mp c)
          unfold strMul
          cases a
          simp only at z
          subst z
          simp
      · rw [if_neg c2, strMul_eq]
        refine ⟨?_, e0 _ rfl _ _ (I.tok _)⟩
        have e1 : (strMul a k.toNat).length = k.toNat * a.length := by
          show ((List.replicate k.toNat a.cps.toList).flatten.toArray).size = _
          rw [List.size_toArray, PyProof.Rows.lm_len_rep_flat]
          first | rfl | (rw [Array.length_toList]; first | rfl | exact Nat.mul_comm _ _)
        rw [e1, size_line]
        have g4 : k.toNat * a.length ≤ 1000 * 1000 := Nat.mul_le_mul (by omega) h3
        exact Nat.le_trans g4 (by decide)
def rBin (K : PySem.W.Frag) (op : Operator) : R2 := fun x y H Q => ∃ W S a b d, WS K W H S ∧ See K W H a x ∧ See K W H b y ∧ binD op a b = some d ∧ Fin K W H S d Q
theorem inR_ok {i : Int} (h : inR64 i = true) : -(2 ^ 64) < i ∧ i < 2 ^ 64 := of_decide_eq_true h
theorem op_bin (op : Operator) : OpR X (binaryOp op) (rBin X.K op) := by
  intro pins s σ H x y v u Q I rx ry h
  obtain ⟨W, S, a, b, d, w, ra, rb, e, f⟩ := h
  unfold binD at e
  split at e
  · cases ra; cases rb; cases e
    exact op_add pins s σ H _ _ v u Q I rx ry ⟨_, _, rfl, rfl, f.same w (.int _)⟩
  · cases ra; cases rb
    split at e
    · rename_i hz
      cases e
      exact op_add_str pins s σ H _ _ v u Q I rx ry ⟨_, _, rfl, rfl, by rw [size_line]; exact hz, f.same w (.str _)⟩
    · cases e
  · split at e
    · rename_i hz
      cases e
      obtain ⟨p, vs, rfl, hp, r1, l1, _⟩ := ra.len w
      obtain ⟨q, us, rfl, hq, r2, l2, _⟩ := rb.len w
      have hz' : vs.length + us.length ≤ sizeLine := by rw [size_line, ← l1, ← l2]; exact hz
      refine op_catA pins s σ H _ _ v u Q I rx ry ⟨p, q, vs, us, rfl, rfl, hp, hq, hz', fun z => ?_, fun _ z => ?_, fun _ _ t ht => ?_⟩
      · subst z
        cases r1
        exact f.same w (.tup hq r2)
      · subst z
        cases r2
        rw [List.append_nil] at f
        exact f.same w (.tup hp r1)
      · exact f.tup w (r1.append r2) (by rw [List.length_append]; exact hz') ht
    · cases e
  · split at e
    · rename_i hz
      cases e
      obtain ⟨p, vs, rfl, hp, r1, l1, _⟩ := ra.lenL w
      obtain ⟨q, us, rfl, hq, r2, l2, _⟩ := rb.lenL w
      have hz' : vs.length + us.length ≤ sizeLine := by rw [size_line, ← l1, ← l2]; exact hz
      exact op_catR pins s σ H _ _ v u Q I rx ry ⟨p, q, vs, us, rfl, rfl, hp, hq, hz', fun t ht => f.lst w (r1.append r2) (by rw [List.length_append]; exact hz') ht⟩
    · cases e
  · cases ra; cases rb; cases e
    exact op_sub pins s σ H _ _ v u Q I rx ry ⟨_, _, rfl, rfl, f.same w (.int _)⟩
  · cases ra; cases rb
    split at e
    · rename_i hz
      cases e
      refine op_mul pins s σ H _ _ v u Q I rx ry ⟨_, _, rfl, rfl, ?_, f.same w (.int _)⟩
      rcases Bool.or_eq_true_iff.mp hz with z | z
      · exact .inl (inR_ok z)
      · exact .inr (inR_ok z)
    · cases e
  · cases ra; cases rb
    split at e
    · rename_i hz
      cases e
      obtain ⟨h2, h3, h4⟩ := hz
      exact op_mulS pins s σ H _ _ v u Q I rx ry ⟨_, _, rfl, rfl, h2, h3, h4, f.same w (.str _)⟩
    · cases e
  · split at e
    · rename_i hz
      cases e
      cases rb
      obtain ⟨h2, h3, h4⟩ := hz
      obtain ⟨p, vs, rfl, hp, r1, l1, _⟩ := ra.len w
      by_cases g1 : vs = []
      · subst g1
        cases r1
        refine op_repS pins s σ H _ _ v u Q I rx ry ⟨p, _, [], rfl, rfl, hp, h2, h3, .inl ⟨.inl rfl, ?_⟩⟩
        rw [flat_nil] at f
        exact f.same w (.tup hp .nil)
      rcases whichK h2 with g2 | g3 | g3
      · subst g2
        refine op_repS pins s σ H _ _ v u Q I rx ry ⟨p, _, vs, rfl, rfl, hp, h2, h3, .inl ⟨.inr rfl, ?_⟩⟩
        have := f.same w (.tup hp (by simpa using r1))
        exact this
      · refine op_repS pins s σ H _ _ v u Q I rx ry ⟨p, _, vs, rfl, rfl, hp, h2, h3, .inr ⟨g1, g3, fun t ht => f.tup w ?_ (Nat.zero_le _) ht⟩⟩
        rw [Int.toNat_of_nonpos g3]
        exact .nil
      refine op_repT pins s σ H _ _ v u Q I rx ry ⟨p, _, vs, rfl, rfl, hp, g1, g3, h3, by rw [← l1]; exact h4, fun t ht => f.tup w (r1.times _) ?_ ht⟩
      · rw [PyProof.Rows.lm_len_rep_flat, size_line, ← l1]
        exact Nat.le_trans (Nat.mul_le_mul (show _ ≤ 1000 by omega) h4) (by decide)
    · cases e
  · cases ra; cases rb
    split at e
    · rename_i hz
      cases e
      exact op_fdiv pins s σ H _ _ v u Q I rx ry ⟨_, _, rfl, rfl, hz, f.same w (.int _)⟩
    · cases e
  · cases ra; cases rb
    split at e
    · rename_i hz
      cases e
      exact op_mod pins s σ H _ _ v u Q I rx ry ⟨_, _, rfl, rfl, hz, f.same w (.int _)⟩
    · cases e
  · cases ra; cases rb
    split at e
    · rename_i hz
      cases e
      exact op_pow pins s σ H _ _ v u Q I rx ry ⟨_, _, rfl, rfl, hz, f.same w (.int _)⟩
    · cases e
  · cases e

theorem ints_rep : ∀ {ds : List D} {vs : List V} {is : List Int}, Reps K W H ds vs → intsOf ds = some is → vs = is.map V.int
  | _, _, _, .nil, e => by cases e; rfl
  | _, _, is, .cons (d := d) (ds := ds) r t, e => by
    cases d with
    | int i =>
      cases r
      cases q : intsOf ds with
      | none => unfold intsOf at e; rw [q] at e; cases e
      | some js =>
        unfold intsOf at e
        rw [q] at e
        cases e
        rw [ints_rep t q]
        rfl
    | _ => cases e
/-! ### comparisons -/
mutual
theorem Rep.dp : ∀ {d : D} {v : V}, d.plain = true → Rep K W H d v → Dp K H v d.py
  | _, _, _, .non => .non
  | _, _, _, .bl b => .bl b
  | _, _, _, .int i => .int i
  | _, _, _, .str x => .str x
  | _, _, p, .tup h r => .tup h (Reps.dp p r)
  | _, _, p, .lst _ h r => .lst (.inl h) (Reps.dp p r)
  | _, _, p, .ref _ => by cases p
  | _, _, p, .dic _ _ => by cases p
  | _, _, p, .fn => by cases p
theorem Reps.dp : ∀ {ds : List D} {vs : List V}, D.plains ds = true → Reps K W H ds vs → DpAll K H vs (D.pys ds)
  | _, _, _, .nil => .nil
  | _, _, p, .cons r t => by
    have q := Bool.and_eq_true_iff.mp p
    exact .cons (Rep.dp q.1 r) (Reps.dp q.2 t)
end
theorem See.dp {d : D} {v : V} (p : d.plain = true) (r : See K W H d v) : Dp K H v d.py := by
  cases r with
  | non => exact .non
  | bl b => exact .bl b
  | int i => exact .int i
  | str x => exact .str x
  | tup h r => exact .tup h (r.dp p)
  | lst h r => exact .lst (.inl h) (r.dp p)
  | dic h => cases p
  | dct h => cases p
  | fn => cases p
  | obj => cases p
def rCmp (K : PySem.W.Frag) (w : World) (op : CmpOp) : R2 := fun x y H Q => ∃ W S a b c, W.w = w ∧ WS K W H S ∧ See K W H a x ∧ See K W H b y ∧ cmpD op a b = some c ∧ Q (.bl c) H
theorem eqv_some {a b : D} {c : Bool} (h : D.eqv a b = some c) : a.plain = true ∧ b.plain = true ∧ a.py.canLay0 = true ∧ b.py.canLay0 = true ∧ min a.py.depth b.py.depth ≤ 64 ∧ PyData.eqv a.py b.py = c := by
  unfold D.eqv at h
  split at h
  · rename_i q
    simp only [Bool.and_eq_true] at q
    exact ⟨q.1.1.1, q.1.1.2, SeqAt.canLay_of_shaped q.1.2, SeqAt.canLay_of_shaped q.2, Nat.le_trans (Nat.min_le_left _ _) (SeqAt.depth_of_shaped q.1.2), Option.some.inj h⟩
  · split at h
    · rename_i q
      simp only [Bool.and_eq_true, decide_eq_true_eq] at q
      exact ⟨q.1.1.1, q.1.1.2, q.1.2.1, q.1.2.2, q.2, Option.some.inj h⟩
    · cases h
theorem in_some {a b : D} {c : Bool} (h : inD a b = some c) (nd : ∀ ks, b ≠ .dic ks) (nd2 : ∀ ks, b ≠ .dct ks) (nd3 : ∀ z, b ≠ .str z) : ∃ ds, (b = .lst ds ∨ b = .tup ds) ∧ a.plain = true ∧ D.plains ds = true ∧ SeqAt.shaped a.py = true ∧ PyData.canLayAll0 (D.pys ds) = true ∧ ((D.pys ds).any fun z => PyData.eqv z a.py) = c := by
  unfold inD at h
  split at h
  · split at h
    · rename_i ds q
      simp only [Bool.and_eq_true] at q
      exact ⟨ds, .inl rfl, q.1.1.1, q.1.1.2, q.1.2, q.2, Option.some.inj h⟩
    · cases h
  · split at h
    · rename_i ds q
      simp only [Bool.and_eq_true] at q
      exact ⟨ds, .inr rfl, q.1.1.1, q.1.1.2, q.1.2, q.2, Option.some.inj h⟩
    · cases h
  · exact absurd rfl (nd _)
  · exact absurd rfl (nd2 _)
  · exact absurd rfl (nd3 _)
  · cases h
theorem keys_some (ks : List Int) (i : Int) : (valV (kTrue ks) (.inl i)).isSome = ks.any fun j => decide (j = i) := by
  induction ks with
  | nil => rfl
  | cons k ks ih =>
    have e : kTrue (k :: ks) = (.inl k, .bl true) :: kTrue ks := rfl
    rw [e, List.any_cons, ← ih]
    by_cases h : k = i
    · rw [valV_pos (by rw [h]), decide_eq_true h]; rfl
    · rw [valV_neg (fun z => h (Sum.inl.inj z)), decide_eq_false h, Bool.false_or]
theorem op_in_data (hu : X.A.units + 65 < cLine) {pins : List (Addr × Obj)} {s : Shared} {σ : L2.St} {x y : V} {v u : Value} {a b : D} {c : Bool} {Q : VK} (I : Inv X pins σ H s) (rx : RelV x v) (ry : RelV y u) (ra : See X.K W H a x) (rb : See X.K W H b y)
    (hw : W.w = X.w) (h : inD a b = some c) (neg : Bool) (q : Q (.bl (if neg then !c else c)) H) : wpAny (model X.prog X.w) X.A (compareOp (if neg then .NotIn else .In) v u) (EP X pins σ Q) X.xe s := by
  by_cases hdic : ∃ ks, b = .dic ks
  · obtain ⟨ks, rfl⟩ := hdic
    have h : inKeys a ks = some c := h
    cases a with
    | int i =>
      cases h
      cases ra
      cases rb with
      | @dic t _ hr =>
        cases ry
        have gt : DGet H t (.int i) (valV (kTrue ks) (.inl i)) := .inl ⟨_, .inl i, hr, rfl, rfl⟩
        have room : X.A.units + 1 < cLine := by omega
        cases neg with
        | false => exact d_in room I gt rx fun s' I' => ⟨.bl _, H, I', rfl, by rw [keys_some]; exact q⟩
        | true => exact d_notIn room I gt rx fun s' I' => ⟨.bl _, H, I', rfl, by rw [keys_some]; exact q⟩
    | _ => cases h
  by_cases hdct : ∃ ks, b = .dct ks
  · obtain ⟨kvs, rfl⟩ := hdct
    have h : (keyD a).map (fun k => (getKV kvs k).isSome) = some c := h
    obtain ⟨k, h1, h2⟩ := Option.map_eq_some_iff.mp h
    obtain ⟨⟨ds, rfl⟩, _, _⟩ := keyD_some h1
    cases ra with
    | tup g r =>
      cases rb with
      | dct m =>
        cases (show v = Value.ref _ from rx)
        cases (show u = Value.ref _ from ry)
        exact dct_in hu I hw m h1 (.tup g r) neg (by rw [h2]; exact q)
  by_cases hstr : ∃ z, b = .str z
  · obtain ⟨z, rfl⟩ := hstr
    cases a with
    | str x =>
      have h : (match x.cps.toList with
        | [c] => some (decide (c ∈ z.cps.toList))
        | _ => none) = some c := h
      split at h
      · rename_i c0 hc
        cases h
        have ex : x = ⟨#[c0]⟩ := by
          obtain ⟨arr⟩ := x
          congr 1
          exact Array.toList_inj.mp (by rw [hc])
        subst ex
        cases ra
        cases rb
        cases neg with
        | false => exact op_in_sign pins s σ H _ _ v u Q I rx ry ⟨c0, z, rfl, rfl, q⟩
        | true => exact op_notIn_sign pins s σ H _ _ v u Q I rx ry ⟨c0, z, rfl, rfl, q⟩
      · cases h
    | _ => cases h
  obtain ⟨ds, hb, p1, p2, s1, s2, e⟩ := in_some h (fun ks z => hdic ⟨ks, z⟩) (fun ks z => hdct ⟨ks, z⟩) fun z e => hstr ⟨z, e⟩
  obtain ⟨as, r1⟩ := Dp.reads I a.py x v (ra.dp p1) rx
  have room := room_in_shaped (xs := D.pys ds) s1 hu
  rcases hb with rfl | rfl
  · obtain ⟨bs, r2⟩ := Dp.reads I (.list (D.pys ds)) y u (rb.dp (d := .lst ds) p2) ry
    cases neg with
    | false => exact SeqAt.in_list_reads r2 r1 s2 (SeqAt.canLay_of_shaped s1) room ⟨.bl _, H, I, rfl, by rw [e]; exact q⟩
    | true => exact SeqAt.notIn_list_reads r2 r1 s2 (SeqAt.canLay_of_shaped s1) room ⟨.bl _, H, I, rfl, by rw [e]; exact q⟩
  · obtain ⟨bs, r2⟩ := Dp.reads I (.tuple (D.pys ds)) y u (rb.dp (d := .tup ds) p2) ry
    cases neg with
    | false => exact SeqAt.in_tuple_reads r2 r1 s2 (SeqAt.canLay_of_shaped s1) room ⟨.bl _, H, I, rfl, by rw [e]; exact q⟩
    | true => exact SeqAt.notIn_tuple_reads r2 r1 s2 (SeqAt.canLay_of_shaped s1) room ⟨.bl _, H, I, rfl, by rw [e]; exact q⟩
/-- t >= u of two tuples of whole numbers -/
theorem op_geI {X : Cx} (room : X.A.units < cLine) : OpR X (compareOp .GtE) (fun x y H Q => ∃ (p r : Addr) (ns ms : List Int), x = .ref p ∧ y = .ref r ∧ SqT X.K H p (ns.map V.int) ∧ SqT X.K H r (ms.map V.int) ∧ Q (.bl (geInts ns ms)) H) := by
  rintro pins s σ H _ _ v u Q I rv ru ⟨p, r, ns, ms, rfl, rfl, hp, hr, q⟩
  cases rv
  cases ru
  obtain ⟨xs, vx, tx, _⟩ := I.tuple hp
  obtain ⟨ys, vy, ty, _⟩ := I.tuple hr
  have nx := Vals.ints vx
  have ny := Vals.ints vy
  have lx : xs.toArray.size = ns.length := (List.size_toArray ..).trans nx.length
  have ly : ys.toArray.size = ms.length := (List.size_toArray ..).trans ny.length
  have gx : ∀ i (h : i < xs.toArray.size), ∃ t, xs.toArray[i] = .int (ns.getD i 0) t := fun i h => PyProof.Rows.IntsAre.int_at nx _ _ (by simp at h; simp [h])
  have gy : ∀ i (h : i < ys.toArray.size), ∃ t, ys.toArray[i] = .int (ms.getD i 0) t := fun i h => PyProof.Rows.IntsAre.int_at ny _ _ (by simp at h; simp [h])
  have Z := Ob.RcOp.tuples_ge (A := X.A) (s := s) (e := fun i => decide (ns.getD i 0 = ms.getD i 0)) (r := fun i => decide (ms.getD i 0 ≤ ns.getD i 0)) tx ty room
    (fun i h1 h2 => by
      obtain ⟨_, e1⟩ := gx i h1
      obtain ⟨_, e2⟩ := gy i h2
      have b : decide (ns.getD i 0 = ms.getD i 0) = (ns.getD i 0 == ms.getD i 0) := by
        rw [Bool.eq_iff_iff, decide_eq_true_eq, beq_iff_eq]
      rw [e1, e2, b]
      exact SeqAt.EqAt.int_int _ _ _ _)
    (fun i h1 h2 _ => by
      obtain ⟨_, e1⟩ := gx i h1
      obtain ⟨_, e2⟩ := gy i h2
      rw [e1, e2]
      exact Ob.RcOp.ge_int _ _ _ _)
  rw [lx, ly] at Z
  exact Z X.prog X.w X.xe (EP X pins σ Q) ⟨.bl _, H, I, rfl, q⟩
/-- x is True, by what is known of x -/
def isV (b : Bool) : V → Option Bool
  | .bl c => some (c == b)
  | .non => some false
  | .int _ => some false
  | .str _ => some false
  | .ref _ => some false
  | _ => none
theorem op_isB : OpR X (compareOp .Is) (fun x y H Q => ∃ b c, y = .bl b ∧ isV b x = some c ∧ Q (.bl c) H) := by
  intro pins s σ H x y v u Q I rx ry h
  obtain ⟨b, c, rfl, e, q⟩ := h
  cases (show u = Value.bool b from ry)
  cases x with
  | bl a =>
    cases (show v = Value.bool a from rx)
    cases e
    refine wpAny_is_plain rfl ⟨.bl (a == b), H, I, ?_, q⟩
    show Value.bool _ = Value.bool _
    cases a <;> cases b <;> rfl
  | non =>
    cases (show v = Value.none from rx)
    cases e
    exact wpAny_is_plain rfl ⟨.bl false, H, I, rfl, q⟩
  | int i =>
    obtain ⟨t, rfl⟩ := rx
    cases e
    exact wpAny_is_plain rfl ⟨.bl false, H, I, rfl, q⟩
  | str z =>
    obtain ⟨t, rfl⟩ := rx
    cases e
    exact wpAny_is_plain rfl ⟨.bl false, H, I, rfl, q⟩
  | ref a =>
    cases (show v = Value.ref a from rx)
    cases e
    exact wpAny_is_plain rfl ⟨.bl false, H, I, rfl, q⟩
  | _ => cases e
theorem op_cmp (hu65 : X.A.units + 65 < cLine) (op : CmpOp) : OpR X (compareOp op) (rCmp X.K X.w op) := by
  intro pins s σ H x y v u Q I rx ry h
  have hu : X.A.units + 64 < cLine := Nat.lt_of_succ_lt hu65
  obtain ⟨W, S, a, b, c, hw, w, ra, rb, e, q⟩ := h
  unfold cmpD at e
  split at e
  · obtain ⟨p1, p2, s1, s2, md, e2⟩ := eqv_some e
    obtain ⟨as, r1⟩ := Dp.reads I _ _ _ (ra.dp p1) rx
    obtain ⟨bs, r2⟩ := Dp.reads I _ _ _ (rb.dp p2) ry
    exact SeqAt.compareEq_reads r1 r2 s1 s2 (by omega) ⟨.bl _, H, I, rfl, by rw [e2]; exact q⟩
  · cases z : D.eqv a b with
    | none => rw [z] at e; cases e
    | some k =>
      rw [z] at e
      obtain ⟨p1, p2, s1, s2, md, e2⟩ := eqv_some z
      have e3 : (!k) = c := Option.some.inj e
      obtain ⟨as, r1⟩ := Dp.reads I _ _ _ (ra.dp p1) rx
      obtain ⟨bs, r2⟩ := Dp.reads I _ _ _ (rb.dp p2) ry
      exact SeqAt.compareNe_reads r1 r2 s1 s2 (by omega) ⟨.bl _, H, I, rfl, by rw [e2, e3]; exact q⟩
  · exact op_in_data hu65 I rx ry ra rb hw e false q
  · cases z : inD a b with
    | none => rw [z] at e; cases e
    | some k =>
      rw [z] at e
      have e3 : (!k) = c := Option.some.inj e
      exact op_in_data hu65 I rx ry ra rb hw z true (by rw [← e3] at q; exact q)
  · obtain ⟨ns, e1, e⟩ := Option.bind_eq_some_iff.mp e
    obtain ⟨ms, e2, e⟩ := Option.map_eq_some_iff.mp e
    subst e
    obtain ⟨t1, vs, rfl, h1, r1, _, _⟩ := ra.len w
    obtain ⟨t2, us, rfl, h2, r2, _, _⟩ := rb.len w
    rw [ints_rep r1 e1] at h1
    rw [ints_rep r2 e2] at h2
    exact op_ltT (by omega) pins s σ H _ _ v u Q I rx ry ⟨t1, t2, ns, ms, rfl, rfl, h1, h2, q⟩
  · obtain ⟨ns, e1, e⟩ := Option.bind_eq_some_iff.mp e
    obtain ⟨ms, e2, e⟩ := Option.map_eq_some_iff.mp e
    subst e
    obtain ⟨t1, vs, rfl, h1, r1, _, _⟩ := ra.len w
    obtain ⟨t2, us, rfl, h2, r2, _, _⟩ := rb.len w
    rw [ints_rep r1 e1] at h1
    rw [ints_rep r2 e2] at h2
    exact op_leT (by omega) pins s σ H _ _ v u Q I rx ry ⟨t1, t2, ns, ms, rfl, rfl, h1, h2, q⟩
  · obtain ⟨ns, e1, e⟩ := Option.bind_eq_some_iff.mp e
    obtain ⟨ms, e2, e⟩ := Option.map_eq_some_iff.mp e
    subst e
    obtain ⟨t1, vs, rfl, h1, r1, _, _⟩ := ra.len w
    obtain ⟨t2, us, rfl, h2, r2, _, _⟩ := rb.len w
    rw [ints_rep r1 e1] at h1
    rw [ints_rep r2 e2] at h2
    exact op_geI (by omega) pins s σ H _ _ v u Q I rx ry ⟨t1, t2, ns, ms, rfl, rfl, h1, h2, q⟩
  · cases ra; cases rb; cases e
    exact op_lt pins s σ H _ _ v u Q I rx ry ⟨_, _, rfl, rfl, q⟩
  · cases ra; cases rb; cases e
    exact op_le pins s σ H _ _ v u Q I rx ry ⟨_, _, rfl, rfl, q⟩
  · cases ra; cases rb; cases e
    exact op_gt pins s σ H _ _ v u Q I rx ry ⟨_, _, rfl, rfl, q⟩
  · cases ra; cases rb; cases e
    exact op_ge pins s σ H _ _ v u Q I rx ry ⟨_, _, rfl, rfl, q⟩
  · cases ra; cases rb; cases e
    exact op_lt_str pins s σ H _ _ v u Q I rx ry ⟨_, _, rfl, rfl, q⟩
  · cases ra; cases rb; cases e
    exact op_le_str pins s σ H _ _ v u Q I rx ry ⟨_, _, rfl, rfl, q⟩
  · cases ra; cases rb; cases e
    exact op_gt_str pins s σ H _ _ v u Q I rx ry ⟨_, _, rfl, rfl, q⟩
  · cases ra; cases rb; cases e
    exact op_ge_str pins s σ H _ _ v u Q I rx ry ⟨_, _, rfl, rfl, q⟩
  · cases e
  · cases e
  · cases rb; cases e
    refine op_isN pins s σ H _ _ v u Q I rx ry ⟨rfl, ?_⟩
    cases ra <;> exact q
  · cases e
  · cases e
  · cases rb; cases e
    refine op_notN pins s σ H _ _ v u Q I rx ry ⟨rfl, ?_⟩
    cases ra <;> exact q
  · cases rb
    refine op_isB pins s σ H _ _ v u Q I rx ry ⟨_, _, rfl, ?_, q⟩
    cases ra <;> first | exact e | cases e
  · cases e

/-! ### truth, items, slices -/
theorem isEmpty_eq {α β : Type} {xs : List α} {ys : List β} (h : xs.length = ys.length) : xs.isEmpty = ys.isEmpty := by
  cases xs <;> cases ys <;> first | rfl | (simp at h)
theorem See.tru {d : D} {v : V} {b : Bool} (r : See K W H d v) (e : truD d = some b) : TruV K v H b := by
  cases r with
  | non => cases e; exact rfl
  | bl b => cases e; exact rfl
  | int i => cases e; exact rfl
  | str x =>
    have e : (if x.length ≤ LINE then some ((x.length : Int) != 0) else none) = some b := e
    split at e
    · rename_i h
      cases e
      exact ⟨by rw [size_line]; exact h, rfl⟩
    · cases e
  | tup h r => cases e; exact .inr (.inl ⟨_, h, by rw [isEmpty_eq r.length]⟩)
  | lst h r => cases e; exact .inl ⟨_, .inl h, by rw [isEmpty_eq r.length]⟩
  | dic h => cases e
  | dct h => cases e
  | fn => cases e
  | obj => cases e
theorem ixN_len {α β : Type} {xs : List α} {ys : List β} (h : xs.length = ys.length) (i : Int) : ixN xs.length i = ixN ys.length i := by rw [h]
theorem atI_rep {ds : List D} {vs : List V} {i : Int} {d : D} (r : Reps K W H ds vs) (h : atI ds i = some d) : ∃ v, atI vs i = some v ∧ Rep K W H d v := by
  unfold atI at h ⊢
  rw [← r.length]
  cases e : ixN ds.length i with
  | none => rw [e] at h; cases h
  | some j =>
    rw [e] at h
    exact r.get h
def rItem (K : PySem.W.Frag) (w : World) : R2 := fun x y H Q => ∃ W S a b d, W.w = w ∧ WS K W H S ∧ See K W H a x ∧ See K W H b y ∧ itemD a b = some d ∧ Fin K W H S d Q
theorem ix_item (hu : X.A.units + 65 < cLine) : IxR X (rItem X.K X.w) := by
  intro value slice pins s σ H x y v u Q I rx ry h hs
  obtain ⟨W, S, a, b, d, hw, w, ra, rb, e, f⟩ := h
  unfold itemD at e
  split at e
  · obtain ⟨p, vs, rfl, hp, r1, _, _⟩ := ra.len w
    cases rb
    obtain ⟨z, hz, rz⟩ := atI_rep r1 e
    exact ix_tup value slice pins s σ H _ _ v u Q I rx ry ⟨p, vs, _, z, rfl, rfl, hp, hz, f.same w rz⟩ hs
  · obtain ⟨p, vs, rfl, hp, r1, _, _⟩ := ra.lenL w
    cases rb
    obtain ⟨z, hz, rz⟩ := atI_rep r1 e
    exact ix_list value slice pins s σ H _ _ v u Q I rx ry ⟨p, vs, _, z, rfl, rfl, .inl hp, hz, f.same w rz⟩ hs
  · split at e
    · rename_i hz
      obtain ⟨c, hc, rfl⟩ := Option.map_eq_some_iff.mp e
      cases ra; cases rb
      exact ix_str value slice pins s σ H _ _ v u Q I rx ry ⟨_, _, c, rfl, rfl, by rw [size_line]; exact hz, hc, f.same w (.str _)⟩ hs
    · cases e
  · obtain ⟨k, h1, h2⟩ := Option.bind_eq_some_iff.mp e
    obtain ⟨⟨ds, rfl⟩, _, _⟩ := keyD_some h1
    cases ra with
    | dct m =>
      cases rb with
      | tup g r =>
        cases (show v = Value.ref _ from rx)
        cases (show u = Value.ref _ from ry)
        obtain ⟨_, _, _, _, dd⟩ := m.heap I hw
        exact tail_any dd.typeIs slot_dict_getitem.lookup (dct_get hu I hw m h1 (.tup g r) h2 fun v rv => f.same w rv) hs
  · cases e
theorem cut_rep {ds : List D} {vs : List V} (r : Reps K W H ds vs) (lo hi : Option Int) : Reps K W H (cutD ds lo hi) (cutV vs lo hi) := by
  unfold cutD cutV
  rw [r.length]
  exact (r.drop _).take _
def rSlD (K : PySem.W.Frag) : V → Option Int → Option Int → Hp → VK → Prop := fun x lo hi H Q => ∃ W S a d, WS K W H S ∧ See K W H a x ∧ sliceD a lo hi = some d ∧ Fin K W H S d Q
theorem cutV_whole {xs : List V} {lo hi : Option Int} (h : HT.sIx xs.length 0 lo = 0 ∧ HT.sIx xs.length xs.length hi = xs.length) : cutV xs lo hi = xs := by
  unfold cutV
  rw [h.1, h.2, List.drop_zero, Nat.sub_zero, List.take_length]
theorem sl_D : SlR X (rSlD X.K) := by
  intro pins s σ H x v vl vu lo hi sl Q I rx hs pl pu h
  obtain ⟨W, S, a, d, w, ra, e, f⟩ := h
  unfold sliceD at e
  split at e
  · cases e
    obtain ⟨p, vs, rfl, hp, r1, _, hl⟩ := ra.len w
    refine sl_tupA pins s σ H _ v vl vu lo hi sl Q I rx hs pl pu ⟨p, vs, rfl, hp, fun z => ?_, fun _ t ht => ?_⟩
    · have c := cut_rep r1 lo hi
      rw [cutV_whole z] at c
      exact f.same w (.tup hp c)
    · exact f.tup w (cut_rep r1 lo hi) (Nat.le_trans (cutV_length _ _ _) hl) ht
  · cases e
    obtain ⟨p, vs, rfl, hp, r1, _, hl⟩ := ra.lenL w
    exact sl_list pins s σ H _ v vl vu lo hi sl Q I rx hs pl pu ⟨p, vs, rfl, .inl hp, fun t ht => f.lst w (cut_rep r1 lo hi) (Nat.le_trans (cutV_length _ _ _) hl) ht⟩
  · split at e
    · rename_i hz
      cases e
      cases ra
      exact sl_str pins s σ H _ v vl vu lo hi sl Q I rx hs pl pu ⟨_, rfl, by rw [size_line]; exact hz, f.same w (.str _)⟩
    · cases e
  · cases e
/-! ### x[::-1] -/
theorem Reps.reverse : ∀ {ds : List D} {vs : List V}, Reps K W H ds vs → Reps K W H ds.reverse vs.reverse
  | _, _, .nil => .nil
  | _, _, .cons r t => by
    rw [List.reverse_cons, List.reverse_cons]
    exact (Reps.reverse t).append (Reps.one r)
section
variable {prog : Program} {w : World} {A : Around} {E : Value → Shared → Prop} {s : Shared}
/-- what a slice object with the step -1 alone applies to n items -/
theorem backwards {sl : Addr} {v1 v2 v3 : Value} {n : Nat} {Q : Int × Int × Nat → Shared → Prop} (hs : s.heap.IsSliceOf sl v1 v2 v3) (p1 : IsPart v1 none) (p2 : IsPart v2 none) (p3 : IsPart v3 (some (-1)))
    (q : Q ((n : Int) - 1, -1, n) s) : wpAny (model prog w) A (Builtin.Slice.sliceApplied (.ref sl) (pure (n : Int))) Q E s := by
  obtain ⟨o, h1, _, h3⟩ := id hs
  unfold Builtin.Slice.sliceApplied Builtin.Slice.sliceFields
  refine wpAny_bind (wpAny_bind (wpAny_field h1 h3 (x := v1) rfl (wpAny_bind (wpAny_field h1 h3 (x := v2) rfl (wpAny_bind (wpAny_field h1 h3 (x := v3) rfl (wpAny_pure ?_)))))))
  cases p1
  cases p2
  cases p3 with
  | int i t =>
  refine wpAny_bind (PyProof.Rows.slicePart_int ?_)
  refine wpAny_bind (PyProof.Rows.slicePart_none (wpAny_bind (PyProof.Rows.slicePart_none (wpAny_bind (wpAny_pure ?_)))))
  have e1 : Builtin.Slice.sliceAdjust none none (-1) (n : Int) = ((n : Int) - 1, -1) := rfl
  have e2 : Builtin.Slice.slicePlaces ((n : Int) - 1) (-1) (-1) = n := by
    unfold Builtin.Slice.slicePlaces
    rw [if_neg (by omega), show (- (-1) : Int) = 1 from rfl, Int.ediv_one]
    split <;> omega
  show wpAny (model prog w) A (match Builtin.Slice.sliceAdjust none none (-1) (n : Int) with
    | (lo, hi) => pure (lo, (-1 : Int), Builtin.Slice.slicePlaces lo hi (-1))) Q E s
  rw [e1]
  show wpAny (model prog w) A (pure ((n : Int) - 1, (-1 : Int), Builtin.Slice.slicePlaces ((n : Int) - 1) (-1) (-1))) Q E s
  rw [e2]
  exact wpAny_pure q
theorem from_back (xs : Array Value) : ((List.range xs.size).filterMap fun (m : Nat) => xs[(((xs.size : Int) - 1) + (m : Int) * (-1)).toNat]?) = xs.toList.reverse := by
  have e : (fun (m : Nat) => xs[(((xs.size : Int) - 1) + (m : Int) * (-1)).toNat]?) = (xs[·]?) ∘ fun m => xs.size - 1 - m := by
    funext m
    show _ = xs[xs.size - 1 - m]?
    congr 1
    omega
  rw [e, ← List.filterMap_map, PySem.W.krv_range, List.filterMap_reverse, PySem.W.krv_all]
/-- t[::-1] of a tuple -/
theorem tuple_back {t sl : Addr} {xs : Array Value} {v1 v2 v3 : Value} {Q : Value → Shared → Prop} (ht : IsTup s.heap t xs) (hs : s.heap.IsSliceOf sl v1 v2 v3) (p1 : IsPart v1 none) (p2 : IsPart v2 none) (p3 : IsPart v3 (some (-1))) (hz : xs.size ≤ sizeLine)
    (q : Q (.ref s.heap.objs.size) { s with heap := s.heap.push { cls := .type "tuple", data := .seq xs.toList.reverse.toArray } }) : wpAny (model prog w) A (getItem (.ref t) (.ref sl)) Q E s := by
  have kind : s.TypeIs (.ref sl) "slice" := by obtain ⟨o, h1, h2, _⟩ := hs; exact ⟨o, h1, h2⟩
  have small : sizeOk (.seq xs.toList.reverse.toArray) := by show xs.toList.reverse.toArray.size ≤ sizeLine; simpa using hz
  unfold getItem
  try with_reducible refine wpAny_holding ?_
  first | refine wpAny_bind (wpAny_pure ?_) | skip
  refine wpAny_bind (wpAny_sequenceKey ht.typeIs (by decide) (wpAny_bind (wpAny_callSpecial?_slot (name := "__getitem__") ht.typeIs PyProof.Rows.slot_tuple_getitem (wpAny_call_entry PyProof.Rows.slot_tuple_getitem ht.typeIs PyProof.Rows.entry_tuple_getitem ?_ (PyProof.Rows.args_tuple_getitem _ _)))))
  show wpAny (model prog w) _ (Builtin.Tuple.tupleItemsOf (.ref t) >>= _) _ E s
  refine wpAny_bind (PyProof.Rows.tupleItemsOf_ ht (wpAny_bind (wpAny_typeOf kind ?_)))
  rw [if_pos (show (Value.type "slice" == Value.type "slice") = true by decide)]
  refine wpAny_bind (backwards hs p1 p2 p3 ?_)
  have no : ¬ ((((xs.size : Int) - 1) == 0 && (-1 : Int) == 1 && xs.size == xs.size) = true) := by simp
  show wpAny (model prog w) _ (if (((xs.size : Int) - 1) == 0 && (-1 : Int) == 1 && xs.size == xs.size) = true then _ else _) _ E s
  rw [if_neg no, from_back]
  exact wpAny_bind (m := Builtin.Tuple.tupleExact _) (wpAny_newObj_type (wpAny_pure ⟨_, rfl, wpAny_pure q⟩) small)
end
section
variable {X : Cx}
/-- x[::-1]: of a list, a tuple -/
def tBack (K : PySem.W.Frag) (te : TE) : TE := fun σ H Q => te σ H fun x H1 => ∃ a xs, x = .ref a ∧ ((SqL K H1 a xs ∧ ∀ p, H1 p = none → Q (.ref p) (upd H1 p (.lst xs.reverse))) ∨ (SqT K H1 a xs ∧ ∀ p, H1 p = none → Q (.ref p) (upd H1 p (.tup xs.reverse))))
theorem pe_back {e : Expr} {te : TE} {st : Expr} {p3 pos : Pos} (hm : minus1 (some st) = true) (he : PE X e te) : PE X (.Subscript e (.Slice none none (some st) p3) pos) (tBack X.K te) := by
  refine ⟨fun pins s σ H Q I h => Subscript_ (thn (he.run pins s σ H _ I h) fun v s1 ⟨x, H1, I1, r1, a, xs, ex, q⟩ => ?_)⟩
  subst ex
  cases r1
  obtain ⟨k, p1, p2, rfl⟩ : ∃ k p1 p2, st = .UnaryOp .USub (.Constant (.int 1) k p1) p2 := by
    unfold minus1 at hm
    split at hm
    · rename_i z; cases z; exact ⟨_, _, _, rfl⟩
    · cases hm
  have third : PO X (some (.UnaryOp .USub (.Constant (.int 1) k p1) p2)) (tPart (tUn (rU fun i => .int (-i)) (tC (.int 1)))) := po_some (pe_un un_neg pe_int)
  refine wpAny_Slice (thn (po_none.run pins s1 σ H1 (fun o H2 => o = none ∧ H2 = H1) I1 ⟨rfl, rfl⟩) fun u1 s2 ⟨o1, H2, I2, g1, d1, d2⟩ => ?_)
  subst d1 d2
  refine thn (po_none.run pins s2 σ H2 (fun o H3 => o = none ∧ H3 = H2) I2 ⟨rfl, rfl⟩) fun u2 s3 ⟨o2, H3, I3, g2, d3, d4⟩ => ?_
  subst d3 d4
  refine thn (third.run pins s3 σ H3 (fun o H4 => o = some (-1) ∧ H4 = H3) I3 ⟨1, rfl, -1, rfl, rfl, rfl⟩) fun u3 s4 ⟨o3, H4, I4, g3, d5, d6⟩ => ?_
  subst d5 d6
  have I5 : Inv X pins σ H4 { s4 with heap := s4.heap.push { cls := .type "slice", data := .fields #[u1, u2, u3] } } := I4.kept (t' := s4.toks) fun _ _ z => Heap.get?_push_of_some _ z
  show wpAny (model X.prog X.w) X.A (subscriptTail e (.Slice none none (some (.UnaryOp .USub (.Constant (.int 1) k p1) p2)) p3) (.ref a) (.ref s4.heap.objs.size)) (EP X pins σ Q) X.xe _
  rcases q with ⟨hx, q⟩ | ⟨hx, q⟩
  · obtain ⟨its, r, ht, hz⟩ := I5.list hx
    have hlen := r.length
    refine tail_any (ops := [.ref a, .ref s4.heap.objs.size]) ht.isList.typeIs PySem.slot_list_getitem.lookup (wpAny_getItem_list_slice ht.isList (Heap.IsSliceOf.new _ u1 u2 u3) g1 g2 g3 (by decide) ?_ (by rw [List.size_toArray]; omega)) (by with_unfolding_all rfl)
    rw [PySem.W.krv_pick]
    exact ⟨.ref _, _, I5.laid (t' := s4.toks) (o := .lst xs.reverse) (fun _ _ z => Heap.get?_push_of_some _ z) (Nat.le_refl _) ⟨by rw [List.length_reverse]; exact hz, _, 0, r.reverse, Heap.get?_push_size _ rfl⟩, rfl, q _ (I5.hok.fresh (Nat.le_refl _))⟩
  · obtain ⟨its, r, ht, hz⟩ := I5.tuple hx
    have hlen := r.length
    refine tail_any (ops := [.ref a, .ref s4.heap.objs.size]) ht.typeIs PyProof.Rows.slot_tuple_getitem.lookup (tuple_back ht (Heap.IsSliceOf.new _ u1 u2 u3) g1 g2 g3 (by rw [List.size_toArray]; omega) ?_) (by with_unfolding_all rfl)
    exact ⟨.ref _, _, I5.laid (t' := s4.toks) (o := .tup xs.reverse) (fun _ _ z => Heap.get?_push_of_some _ z) (Nat.le_refl _) ⟨by rw [List.length_reverse]; exact hz, _, r.reverse, IsTup.new _ _⟩, rfl, q _ (I5.hok.fresh (Nat.le_refl _))⟩
end

/-! ### built-ins -/
def Sees (K : PySem.W.Frag) (W : Wd) (H : Hp) : List D → List V → Prop := Paired (See K W H)
theorem RepTs.sees (w : WS K W H S) : ∀ {ds : List D} {vs : List V}, RepTs K W H ds vs → Sees K W H (ds.map (view S)) vs
  | _, _, .nil => .nil
  | _, _, .cons r t => .cons (r.see w) (RepTs.sees w t)
def rCall (K : PySem.W.Frag) (x : Str) : List V → Hp → VK → Prop := fun vs H Q => ∃ W S ds d, WS K W H S ∧ Sees K W H ds vs ∧ callD x ds = some d ∧ Fin K W H S d Q
theorem one_see {d : D} {vs : List V} (r : Sees K W H [d] vs) : ∃ v, vs = [v] ∧ See K W H d v := by
  cases r with
  | cons a t => cases t; exact ⟨_, rfl, a⟩
theorem two_see {d e : D} {vs : List V} (r : Sees K W H [d, e] vs) : ∃ v u, vs = [v, u] ∧ See K W H d v ∧ See K W H e u := by
  cases r with
  | cons a t =>
    cases t with
    | cons b t => cases t; exact ⟨_, _, rfl, a, b⟩
theorem cb_len : CallR X (.builtin "len") (rCall X.K "len") := by
  intro pins s σ H xs us Q I r h
  obtain ⟨W, S, ds, d, w, rs, e, f⟩ := h
  unfold callD at e
  split at e
  · rw [if_pos rfl] at e
    obtain ⟨v, rfl, rv⟩ := one_see rs
    split at e
    · cases e
      obtain ⟨p, vs, rfl, hp, r1, l1, _⟩ := rv.len w
      exact call_len_seq pins s σ H _ us Q I r ⟨p, vs, rfl, .inr hp, by rw [← l1]; exact f.same w (.int _)⟩
    · cases e
      obtain ⟨p, vs, rfl, hp, r1, l1, _⟩ := rv.lenL w
      exact call_len_seq pins s σ H _ us Q I r ⟨p, vs, rfl, .inl (.inl hp), by rw [← l1]; exact f.same w (.int _)⟩
    · split at e
      · rename_i hz
        cases e; cases rv
        exact call_len_str pins s σ H _ us Q I r ⟨_, rfl, by rw [size_line]; exact hz, f.same w (.int _)⟩
      · cases e
    · cases e
  · rw [if_neg (by decide), if_neg (by decide)] at e; cases e
  · cases e
theorem cb_sum (hc : X.calm = true) : CallR X (.builtin "sum") (rCall X.K "sum") := by
  intro pins s σ H xs us Q I r h
  obtain ⟨W, S, ds, d, w, rs, e, f⟩ := h
  unfold callD at e
  split at e
  · rw [if_neg (by decide), if_pos rfl] at e
    obtain ⟨v, rfl, rv⟩ := one_see rs
    split at e
    · rename_i ds'
      cases z : intsOf ds' with
      | none => rw [z] at e; cases e
      | some is =>
        rw [z] at e
        cases e
        obtain ⟨p, vs, rfl, hp, r1, l1, _⟩ := rv.lenL w
        have ev := ints_rep r1 z
        subst ev
        exact cr_sum hc pins s σ H _ us Q I r ⟨p, is, rfl, .inl hp, f.same w (.int _)⟩
    · cases e
  · rw [if_neg (by decide), if_neg (by decide)] at e; cases e
  · cases e
theorem cb_tuple : CallR X (.type "tuple") (rCall X.K "tuple") := by
  intro pins s σ H xs us Q I r h
  obtain ⟨W, S, ds, d, w, rs, e, f⟩ := h
  unfold callD at e
  split at e
  · rw [if_neg (by decide), if_neg (by decide), if_pos rfl] at e
    obtain ⟨v, rfl, rv⟩ := one_see rs
    split at e
    · cases e
      obtain ⟨p, vs, rfl, hp, r1, l1, hl⟩ := rv.lenL w
      exact call_tuple_of pins s σ H _ us Q I r ⟨p, vs, rfl, .inl ⟨.inl hp, fun t ht => f.tup w r1 hl ht⟩⟩
    · cases e
      obtain ⟨p, vs, rfl, hp, r1, l1, _⟩ := rv.len w
      exact call_tuple_of pins s σ H _ us Q I r ⟨p, vs, rfl, .inr ⟨hp, f.same w (.tup hp r1)⟩⟩
    · cases e
  · rw [if_neg (by decide), if_neg (by decide)] at e; cases e
  · cases e
theorem cb_abs : CallR X (.builtin "abs") (rCall X.K "abs") := by
  intro pins s σ H xs us Q I r h
  obtain ⟨W, S, ds, d, w, rs, e, f⟩ := h
  unfold callD at e
  split at e
  · rw [if_neg (by decide), if_neg (by decide), if_neg (by decide), if_pos rfl] at e
    obtain ⟨v, rfl, rv⟩ := one_see rs
    split at e
    · cases e; cases rv
      exact call_abs pins s σ H _ us Q I r ⟨_, rfl, f.same w (.int _)⟩
    · cases e
  · rw [if_neg (by decide), if_neg (by decide)] at e; cases e
  · cases e
theorem cb_int : CallR X (.type "int") (rCall X.K "int") := by
  intro pins s σ H xs us Q I r h
  obtain ⟨W, S, ds, d, w, rs, e, f⟩ := h
  unfold callD at e
  split at e
  · rw [if_neg (by decide), if_neg (by decide), if_neg (by decide), if_neg (by decide), if_pos rfl] at e
    obtain ⟨v, rfl, rv⟩ := one_see rs
    split at e
    · cases e; cases rv
      exact call_int1 pins s σ H _ us Q I r (.inl ⟨_, rfl, f.same w (.int _)⟩)
    · cases e; cases rv
      exact call_int1 pins s σ H _ us Q I r (.inr ⟨_, rfl, f.same w (.int _)⟩)
    · split at e
      · rename_i hz
        obtain ⟨n, hn, rfl⟩ := Option.map_eq_some_iff.mp e
        cases rv
        exact call_int_str pins s σ H _ us Q I r ⟨_, n, rfl, hn, hz, f.same w (.int _)⟩
      · cases e
    · cases e
  · rw [if_neg (by decide), if_neg (by decide)] at e; cases e
  · cases e
theorem cb_max (hc : X.calm = true) : CallR X (.builtin "max") (rCall X.K "max") := by
  intro pins s σ H xs us Q I r h
  obtain ⟨W, S, ds, d, w, rs, e, f⟩ := h
  unfold callD at e
  split at e
  · rw [if_neg (by decide), if_neg (by decide), if_neg (by decide), if_neg (by decide), if_neg (by decide)] at e; cases e
  · rw [if_pos rfl] at e
    cases e
    obtain ⟨v, u, rfl, r1, r2⟩ := two_see rs
    cases r1; cases r2
    exact call_max2 hc pins s σ H _ us Q I r ⟨_, _, rfl, f.same w (.int _)⟩
  · cases e
theorem cb_min (hc : X.calm = true) : CallR X (.builtin "min") (rCall X.K "min") := by
  intro pins s σ H xs us Q I r h
  obtain ⟨W, S, ds, d, w, rs, e, f⟩ := h
  unfold callD at e
  split at e
  · rw [if_neg (by decide), if_neg (by decide), if_neg (by decide), if_neg (by decide), if_neg (by decide)] at e; cases e
  · rw [if_neg (by decide), if_pos rfl] at e
    cases e
    obtain ⟨v, u, rfl, r1, r2⟩ := two_see rs
    cases r1; cases r2
    exact call_min2 hc pins s σ H _ us Q I r ⟨_, _, rfl, f.same w (.int _)⟩
  · cases e
theorem Reps.pairs : ∀ {l : List (D × V)}, (∀ p ∈ l, Rep K W H p.1 p.2) → Reps K W H (l.map (·.1)) (l.map (·.2))
  | [], _ => .nil
  | p :: l, h => .cons (h p (List.mem_cons_self ..)) (Reps.pairs fun q hq => h q (List.mem_cons_of_mem _ hq))
theorem Reps.zip_mem : ∀ {ds : List D} {vs : List V}, Reps K W H ds vs → ∀ p ∈ ds.zip vs, Rep K W H p.1 p.2
  | _, _, .nil, p, h => by simp at h
  | _, _, .cons r t, p, h => by
    rw [List.zip_cons_cons] at h
    rcases List.mem_cons.mp h with h | h
    · rw [h]; exact r
    · exact Reps.zip_mem t p h
theorem Reps.zip_fst : ∀ {ds : List D} {vs : List V}, Reps K W H ds vs → (ds.zip vs).map (·.1) = ds
  | _, _, .nil => rfl
  | _, _, .cons r t => by rw [List.zip_cons_cons, List.map_cons, Reps.zip_fst t]
theorem Reps.each : ∀ {ds : List D} {vs : List V} {us : List Value}, Reps K W H ds vs → Vals vs us → PySem.W.EachIs (fun u (p : D × V) => RelV p.2 u) us (ds.zip vs)
  | _, _, _, .nil, r => by cases r; exact .nil
  | _, _, _, .cons _ t, r => by
    cases r with
    | cons r1 r2 => exact .cons r1 (Reps.each t r2)
theorem vals_each : ∀ {us : List Value} {l : List (D × V)}, PySem.W.EachIs (fun u (p : D × V) => RelV p.2 u) us l → Vals (l.map (·.2)) us
  | _, _, .nil => .nil
  | _, _, .cons r t => .cons r (vals_each t)
theorem each_reads {pins : List (Addr × Obj)} {s : Shared} {σ : L2.St} (I : Inv X pins σ H s) : ∀ {us : List Value} {l : List (D × V)}, (∀ p ∈ l, Rep X.K W H p.1 p.2 ∧ p.1.plain = true) → PySem.W.EachIs (fun u (p : D × V) => RelV p.2 u) us l →
    PySem.W.EachIs (fun u (p : D × V) => ∃ as, Reads s.heap u p.1.py as) us l
  | _, _, _, .nil => .nil
  | _, _, h, .cons r t => .cons (Dp.reads I _ _ _ ((h _ (List.mem_cons_self ..)).1.dp (h _ (List.mem_cons_self ..)).2) r) (each_reads I (fun p hp => h p (List.mem_cons_of_mem _ hp)) t)
theorem plains_mem {d : D} : ∀ {ds : List D}, D.plains ds = true → d ∈ ds → d.plain = true
  | [], _, h => by cases h
  | e :: ds, p, h => by
    have q := Bool.and_eq_true_iff.mp (show (e.plain && D.plains ds) = true from p)
    rcases List.mem_cons.mp h with h | h
    · rw [h]; exact q.1
    · exact plains_mem q.2 h
theorem cb_sorted (hu : X.A.units + 130 < cLine) : CallR X (.builtin "sorted") (rCall X.K "sorted") := by
  intro pins s σ H xs us Q I r h
  obtain ⟨W, S, ds, d, w, rs, e, f⟩ := h
  unfold callD at e
  split at e
  · rw [if_neg (by decide), if_neg (by decide), if_neg (by decide), if_neg (by decide), if_neg (by decide), if_pos rfl] at e
    obtain ⟨v, rfl, rv⟩ := one_see rs
    split at e
    · rename_i ds
      obtain ⟨es, e1, e2⟩ := Option.map_eq_some_iff.mp e
      subst e2
      unfold sortD at e1
      split at e1
      · rename_i hc
        cases e1
        simp only [Bool.and_eq_true, List.all_eq_true] at hc
        obtain ⟨⟨⟨c1, c2⟩, c3⟩, c4⟩ := hc
        obtain ⟨p, vs, rfl, hp, r1, l1, hl⟩ := rv.lenL w
        obtain ⟨its, rr, pl, hz⟩ := I.list (.inl hp)
        rw [Vals.ref1 r]
        have fst := r1.zip_fst
        have prop : ∀ q ∈ ds.zip vs, Rep X.K W H q.1 q.2 ∧ q.1 ∈ ds := fun q hq => ⟨r1.zip_mem q hq, (List.of_mem_zip hq).1⟩
        have me : (ds.zip vs).map (fun q => q.1.py) = ds.map D.py := by
          have z := congrArg (List.map D.py) fst
          rw [List.map_map] at z
          exact z
        have e0 := r1.each rr
        refine PySem.W.sorted_data (vs := its) (bs := ds.zip vs) (enc := fun q => q.1.py) (R := fun u q => RelV q.2 u) pl.isList e0 (each_reads I (fun q hq => ⟨(prop q hq).1, plains_mem c1 (prop q hq).2⟩) e0) ?_ ?_ ?_ ?_ fun out ho hE => ?_
        · intro a ha b hb
          rw [me] at ha hb
          obtain ⟨a', ha', rfl⟩ := List.mem_map.mp ha
          obtain ⟨b', hb', rfl⟩ := List.mem_map.mp hb
          exact c3 a' ha' b' hb'
        · unfold sortableB at c4
          rw [Bool.or_eq_true, List.all_eq_true, List.all_eq_true] at c4
          rw [me]
          rcases c4 with c4 | c4
          · refine .inl fun a ha => ?_
            obtain ⟨a', ha', rfl⟩ := List.mem_map.mp ha
            have q := c4 a' ha'
            split at q
            · rename_i x rst z; exact ⟨x, rst, z⟩
            · cases q
          · refine .inr fun a ha => ?_
            obtain ⟨a', ha', rfl⟩ := List.mem_map.mp ha
            have q := c4 a' ha'
            refine ⟨fun z => ?_, fun xs z => ?_⟩
            · rw [z] at q; cases q
            · rw [z] at q; cases q
        · rw [List.length_zip, l1, Nat.min_self]; exact hl
        · intro q hq
          have z := SeqAt.depth_of_shaped (c2 q.1 (prop q hq).2)
          omega
        · have srt : ((ds.zip vs).mergeSort (PySem.W.dataLe false fun q => q.1.py)).map (·.1) = ds.mergeSort (PySem.W.dataLe false D.py) := by
            have z := List.map_mergeSort (r := PySem.W.dataLe false fun (q : D × V) => q.1.py) (s := PySem.W.dataLe false D.py) (f := fun q : D × V => q.1) (l := ds.zip vs) (fun a _ b _ => rfl)
            rw [fst] at z
            exact z
          have reps := Reps.pairs (K := X.K) (W := W) (H := H) (l := (ds.zip vs).mergeSort (PySem.W.dataLe false fun q => q.1.py)) fun q hq => (prop q (List.mem_mergeSort.mp hq)).1
          rw [srt] at reps
          have vo := vals_each hE
          have hlen : (((ds.zip vs).mergeSort (PySem.W.dataLe false fun q => q.1.py)).map (·.2)).length ≤ sizeLine := by
            rw [List.length_map, List.length_mergeSort, List.length_zip, l1, Nat.min_self]; exact hl
          obtain ⟨ep, he⟩ := PyProof.Rows.sortedAll_at s.heap its out.toArray
          exact ⟨.ref _, upd H (s.heap.objs.size + 1) (.lst (((ds.zip vs).mergeSort (PySem.W.dataLe false fun q => q.1.py)).map (·.2))), I.laid (t' := s.toks) (fun _ _ => PyProof.Rows.sortedAll_old) (Nat.le_succ _) ⟨hlen, out, ep, vo, he⟩, rfl,
            f.lst w reps hlen (I.hok.fresh (Nat.le_succ _))⟩
      · cases e1
    · rename_i ds
      obtain ⟨es, e1, e2⟩ := Option.map_eq_some_iff.mp e
      subst e2
      unfold sortD at e1
      split at e1
      · rename_i hc
        cases e1
        simp only [Bool.and_eq_true, List.all_eq_true] at hc
        obtain ⟨⟨⟨c1, c2⟩, c3⟩, c4⟩ := hc
        obtain ⟨p, vs, rfl, hp, r1, l1, hl⟩ := rv.len w
        obtain ⟨its, rr, pl, hz⟩ := I.tuple hp
        rw [Vals.ref1 r]
        have fst := r1.zip_fst
        have prop : ∀ q ∈ ds.zip vs, Rep X.K W H q.1 q.2 ∧ q.1 ∈ ds := fun q hq => ⟨r1.zip_mem q hq, (List.of_mem_zip hq).1⟩
        have me : (ds.zip vs).map (fun q => q.1.py) = ds.map D.py := by
          have z := congrArg (List.map D.py) fst
          rw [List.map_map] at z
          exact z
        have e0 := r1.each rr
        refine sorted_tup (us := its) (xs := ds.zip vs) (en := fun q => q.1.py) (Rr := fun u q => RelV q.2 u) pl e0 (each_reads I (fun q hq => ⟨(prop q hq).1, plains_mem c1 (prop q hq).2⟩) e0) ?_ ?_ ?_ ?_ fun out ho hE => ?_
        · intro a ha b hb
          rw [me] at ha hb
          obtain ⟨a', ha', rfl⟩ := List.mem_map.mp ha
          obtain ⟨b', hb', rfl⟩ := List.mem_map.mp hb
          exact c3 a' ha' b' hb'
        · unfold sortableB at c4
          rw [Bool.or_eq_true, List.all_eq_true, List.all_eq_true] at c4
          rw [me]
          rcases c4 with c4 | c4
          · refine .inl fun a ha => ?_
            obtain ⟨a', ha', rfl⟩ := List.mem_map.mp ha
            have q := c4 a' ha'
            split at q
            · rename_i x rst z; exact ⟨x, rst, z⟩
            · cases q
          · refine .inr fun a ha => ?_
            obtain ⟨a', ha', rfl⟩ := List.mem_map.mp ha
            have q := c4 a' ha'
            refine ⟨fun z => ?_, fun xs z => ?_⟩
            · rw [z] at q; cases q
            · rw [z] at q; cases q
        · rw [List.length_zip, l1, Nat.min_self]; exact hl
        · intro q hq
          have z := SeqAt.depth_of_shaped (c2 q.1 (prop q hq).2)
          omega
        · have srt : ((ds.zip vs).mergeSort (PySem.W.dataLe false fun q => q.1.py)).map (·.1) = ds.mergeSort (PySem.W.dataLe false D.py) := by
            have z := List.map_mergeSort (r := PySem.W.dataLe false fun (q : D × V) => q.1.py) (s := PySem.W.dataLe false D.py) (f := fun q : D × V => q.1) (l := ds.zip vs) (fun a _ b _ => rfl)
            rw [fst] at z
            exact z
          have reps := Reps.pairs (K := X.K) (W := W) (H := H) (l := (ds.zip vs).mergeSort (PySem.W.dataLe false fun q => q.1.py)) fun q hq => (prop q (List.mem_mergeSort.mp hq)).1
          rw [srt] at reps
          have vo := vals_each hE
          have hlen : (((ds.zip vs).mergeSort (PySem.W.dataLe false fun q => q.1.py)).map (·.2)).length ≤ sizeLine := by
            rw [List.length_map, List.length_mergeSort, List.length_zip, l1, Nat.min_self]; exact hl
          obtain ⟨ep, he⟩ := PyProof.Rows.sortedAll_at s.heap its out.toArray
          exact ⟨.ref _, upd H (s.heap.objs.size + 1) (.lst (((ds.zip vs).mergeSort (PySem.W.dataLe false fun q => q.1.py)).map (·.2))), I.laid (t' := s.toks) (fun _ _ => PyProof.Rows.sortedAll_old) (Nat.le_succ _) ⟨hlen, out, ep, vo, he⟩, rfl,
            f.lst w reps hlen (I.hok.fresh (Nat.le_succ _))⟩
      · cases e1
    · cases e
  · rw [if_neg (by decide), if_neg (by decide)] at e; cases e
  · cases e
theorem cb_str : CallR X (.type "str") (rCall X.K "str") := by
  intro pins s σ H xs us Q I r h
  obtain ⟨W, S, ds, d, w, rs, e, f⟩ := h
  unfold callD at e
  split at e
  · rw [if_neg (by decide), if_neg (by decide), if_neg (by decide), if_neg (by decide), if_neg (by decide), if_neg (by decide), if_pos rfl] at e
    obtain ⟨v, rfl, rv⟩ := one_see rs
    split at e
    · split at e
      · rename_i hz
        cases e; cases rv
        exact call_str_int pins s σ H _ us Q I r ⟨_, rfl, hz, f.same w (.str _)⟩
      · cases e
    · cases e; cases rv
      exact SkE.call_str_str pins s σ H _ us Q I r ⟨_, rfl, f.same w (.str _)⟩
    · cases e
  · rw [if_neg (by decide), if_neg (by decide)] at e; cases e
  · cases e
theorem keys_rep : ∀ {kvs : List (D × D)} {xs : List (NestedKey × Addr × Value)}, Paired (EntOk K W H) kvs xs → Reps K W H (kvs.map (·.1)) (xs.map fun x => V.ref x.2.1)
  | _, _, .nil => .nil
  | _, _, .cons r t => .cons r.rep (keys_rep t)
theorem list_dct {t : Addr} {kvs : List (D × D)} {pins : List (Addr × Obj)} {s : Shared} {σ : L2.St} {us : List Value} {Q : VK} (hc : X.calm = true) (I : Inv X pins σ H s) (r : Vals [.ref t] us) (w : WS X.K W H S) (m : DicAt X.K W H t kvs) (f : Fin X.K W H S (.lst (kvs.map (·.1))) Q) :
    wpAny (model X.prog X.w) X.A (call (.type "list") us) (EP X pins σ Q) X.xe s := by
  rw [Vals.ref1 r]
  obtain ⟨o, es, ep, ks, h1, hx, hdt, hs, z, he, hn, pr⟩ := m
  have ho := (I.hok t _ h1).1
  have l1 : es.size = ks.length := by rw [← Array.length_toList, he, List.length_map]
  have l2 : kvs.length = ks.length := Paired.length pr
  refine PySem.W.kdl_call (L2.kdl_raw hs hx hdt) (I.ok.hd hc) ho (by omega) fun h' tk acc' c' kp e it => ?_
  have ea : acc'.toList = ks.map fun x => Value.ref x.2.1 := by
    have hl : acc'.toList.length = ks.length := by rw [Array.length_toList, it.1]; exact l1
    apply List.ext_getElem?
    intro j
    rw [List.getElem?_map]
    cases hj : acc'.toList[j]? with
    | none =>
      have h1 := List.getElem?_eq_none_iff.mp hj
      rw [List.getElem?_eq_none (by omega)]
      all_goals rfl
    | some v =>
      obtain ⟨en, hen, hv⟩ := it.2 j v (by rw [← Array.getElem?_toList]; exact hj)
      have qe : es.toList[j]? = (ks.map (entN W.w))[j]? := by rw [he]
      rw [Array.getElem?_toList, hen, List.getElem?_map] at qe
      cases hb : ks[j]? with
      | none => rw [hb] at qe; cases qe
      | some b =>
        rw [hb] at qe
        have e2 : en = entN W.w b := Option.some.inj qe
        rw [hv, e2]
        all_goals rfl
  have rv : Vals (ks.map fun x => V.ref x.2.1) acc'.toList := by
    rw [ea]
    clear ea it he l1 l2 pr hn
    induction ks with
    | nil => exact .nil
    | cons k ks ih => exact .cons rfl ih
  have hz : (ks.map fun x => V.ref x.2.1).length ≤ sizeLine := by rw [List.length_map]; omega
  refine ⟨.ref s.heap.objs.size, _, I.laid (t' := tk) (o := .lst (ks.map fun x => V.ref x.2.1)) kp (Nat.le_refl _) ?_, rfl, f.lst w (keys_rep pr) hz (I.hok.fresh (Nat.le_refl _))⟩
  exact ⟨hz, acc'.toList, c', rv, by rw [Array.toArray_toList]; exact e⟩
theorem cb_list (hc : X.calm = true) : CallR X (.type "list") (rCall X.K "list") := by
  intro pins s σ H xs us Q I r h
  obtain ⟨W, S, ds, d, w, rs, e, f⟩ := h
  unfold callD at e
  split at e
  · rw [if_neg (by decide), if_neg (by decide), if_neg (by decide), if_neg (by decide), if_neg (by decide), if_neg (by decide), if_neg (by decide), if_pos rfl] at e
    obtain ⟨v, rfl, rv⟩ := one_see rs
    split at e
    · rename_i ks
      cases e
      cases rv with
      | @dic t _ hr =>
        have hz : (kTrue ks).length ≤ sizeLine := (dk_rd I.hok hr).1
        have reps : Reps X.K W H (ks.map D.int) ((kTrue ks).map fun kv => kV kv.1) := by
          clear hz hr f rs
          induction ks with
          | nil => exact .nil
          | cons k ks ih => exact .cons (.int k) ih
        exact call_listD hc pins s σ H _ us Q I r ⟨t, _, rfl, hr, fun p hp => f.lst w reps (by rw [List.length_map]; exact hz) hp⟩
    · rename_i kvs
      cases e
      cases rv with
      | @dct t _ m => exact list_dct hc I r w m f
    · cases e
  · rw [if_neg (by decide), if_neg (by decide)] at e; cases e
  · cases e
theorem repr_see {d : D} {y : Str} {W : Wd} {H : Hp} {S : Sto} {v : V} {pins : List (Addr × Obj)} {s : Shared} {σ : L2.St} {us : List Value} {Q : VK} (hg : X.A.guards = some []) (hu : X.A.units + 65 < cLine) (I : Inv X pins σ H s) (w : WS X.K W H S) (r : Vals [v] us)
    (rv : See X.K W H d v) (hv : ∃ a, v = .ref a) (e : reprS d = some y) (f : Fin X.K W H S (.str y) Q) : wpAny (model X.prog X.w) X.A (call (.builtin "repr") us) (EP X pins σ Q) X.xe s := by
  obtain ⟨a, rfl⟩ := hv
  rw [Vals.ref1 r]
  unfold reprS at e
  split at e
  · rename_i hc
    simp only [Bool.and_eq_true, decide_eq_true_eq] at hc
    obtain ⟨⟨⟨c1, c2⟩, c3⟩, c4⟩ := hc
    cases e
    obtain ⟨as, rd⟩ := Dp.reads I _ _ (.ref a) (rv.dp c1) rfl
    have hd := SeqAt.depth_of_shaped c2
    exact repr_of_reads' rd c3 (PyData.noDict_hsm (PyData.hasDict_of_canLay _ (SeqAt.canLay_of_shaped c2))) hg (by omega) (fun _ _ q => q) (fun h' u tk hk => ⟨.str _, H, I.kept (t' := tk) hk, ⟨_, rfl⟩, f.same w (.str _)⟩) (by rw [size_line]; exact c4)
  · cases e
theorem cb_repr (hg : X.A.guards = some []) (hu : X.A.units + 65 < cLine) : CallR X (.builtin "repr") (rCall X.K "repr") := by
  intro pins s σ H xs us Q I r h
  obtain ⟨W, S, ds, d, w, rs, e, f⟩ := h
  unfold callD at e
  split at e
  · rw [if_neg (by decide), if_neg (by decide), if_neg (by decide), if_neg (by decide), if_neg (by decide), if_neg (by decide), if_neg (by decide), if_neg (by decide), if_pos rfl] at e
    obtain ⟨v, rfl, rv⟩ := one_see rs
    obtain ⟨y, e1, e2⟩ := Option.map_eq_some_iff.mp e
    subst e2
    unfold reprD at e1
    split at e1
    · cases e1; cases rv
      cases r with
      | cons r1 r2 =>
        cases r2
        obtain rfl := (show _ = Value.none from r1)
        exact PySem.P.repr_of_none ⟨.str _, H, I.tok _, ⟨_, rfl⟩, f.same w (.str _)⟩
    · cases e1; cases rv
      cases r with
      | cons r1 r2 =>
        cases r2
        obtain rfl := (show _ = Value.bool _ from r1)
        exact PySem.P.repr_of_bool ⟨.str _, H, I.tok _, ⟨_, rfl⟩, f.same w (.str _)⟩
    · exact repr_see hg hu I w r rv (by cases rv; exact ⟨_, rfl⟩) e1 f
    · exact repr_see hg hu I w r rv (by cases rv; exact ⟨_, rfl⟩) e1 f
    · split at e1
      · rename_i hz
        cases e1; cases rv
        cases r with
        | cons r1 r2 =>
          cases r2
          obtain ⟨t, rfl⟩ := r1
          exact PySem.P.repr_of_str ⟨.str _, H, I.tok _, ⟨_, rfl⟩, f.same w (.str _)⟩ (by rw [size_line]; exact hz)
      · cases e1
    · cases e1
  · rw [if_neg (by decide), if_neg (by decide)] at e; cases e
  · cases e
/-- which built-in a name stands for -/
inductive BiV (X : Cx) : Str → V → Prop where
  | fn (x : Str) (id : String) : bootBuiltins x = some (.builtin id) → CallR X (.builtin id) (rCall X.K x) → BiV X x .non
  | ty (x : Str) (T : String) : bootBuiltins x = some (.type T) → CallR X (.type T) (rCall X.K x) → BiV X x .non
def tyN : D → String
  | .non => "NoneType" | .bl _ => "bool" | .int _ => "int" | .str _ => "str" | .tup _ => "tuple" | .lst _ => "list" | .ref _ => "" | .dic _ => "dict" | .dct _ => "" | .fn _ => ""
theorem tyx {d : D} {v : V} (w : WS K W H S) (nd : (∀ kvs, d ≠ .dct kvs) ∧ (∀ x, d ≠ .fn x) ∧ ∀ i, d ≠ .ref i) (r : See K W H d v) {T : String} (h : tyN d = T) : TyX K H v (.type T) := by
  subst h
  cases r with
  | non => exact .base .non
  | bl b => exact .base (.bl b)
  | int i => exact .base (.int i)
  | str x => exact .base (.str x)
  | tup h _ =>
    rcases h with (h | ⟨o, h⟩) | ⟨o, its, n, e, c, _⟩
    · exact .base (.tup h)
    · exact .fTuple h
    · exact .kTuple e c
  | lst h _ =>
    rcases h with h | ⟨o, h⟩
    · exact .base (.lst h)
    · exact .base (.frz h)
  | dic h =>
    rcases h with h | ⟨o, h⟩
    · exact .base (.dK h)
    · exact .fDict h
  | dct h => exact absurd rfl (nd.1 _)
  | fn => exact absurd rfl (nd.2.1 _)
  | obj => exact absurd rfl (nd.2.2 _)
def rIsiD (K : PySem.W.Frag) (T : Str) : List V → Hp → VK → Prop := fun vs H Q => ∃ W S d v Ts b, vs = [v, .ty Ts] ∧ T = Str.ofString Ts ∧ WS K W H S ∧ See K W H d v ∧ isiD T d = some b ∧ Q (.bl b) H
end
end Lw
set_option maxHeartbeats 2000000
/-! LwR: own exceptions in the air, made without arguments: the kit's flights (PX) with the place of the args. -/
namespace Lw
open PySem PySem.Spec PyProof.Rows L2

/-- the ground holds an empty tuple at t -/
def NoArg (B : Heap) (t : Addr) : Prop := ∃ ot, B.get? t = some ot ∧ ot.cls = .type "tuple" ∧ ∃ n, ot.data = .seq #[] n
/-- in the air of a body: sI is the state without it -/
def AirA (X : Cx) (W : WX) (u : Value) (s' : Shared) : Prop :=
  ∃ (a t : Addr) (B : Heap) (sI : Shared) (pins : List (Addr × Obj)) (σ : L2.St) (H : Hp) (cls : Value), u = .ref a ∧ Inv X pins σ H sI ∧ (∀ b o, sI.heap.get? b = some o → b ∉ frs X.stack → B.get? b = some o) ∧
    sI.heap.UpToSlots s'.heap ∧ (∀ F, X.env.frame = some F → PX.AirZ B X.stack a (PX.Zown cls none t) F s'.heap) ∧ (NoArg B t ∧ H t = none ∧ H a = none) ∧ s'.os = sI.os ∧ AllBare s'.gens ∧ W cls none σ H
/-- behind a call that let one out -/
def CXA (P : Program) (w : World) (outer : List Env) (H : Hp) (s : Shared) (E : XK) (u : Value) (s' : Shared) : Prop :=
  ∃ (a t : Addr) (B : Heap) (H' : Hp) (cls : Value), u = .ref a ∧ PX.FlyingZ B outer a (PX.Zown cls none t) s'.heap ∧ (NoArg B t ∧ H' t = none ∧ H' a = none) ∧ HOk P w H' B ∧ UB (frs outer) H H' s.heap B s'.heap ∧ s'.os = s.os ∧ AllBare s'.gens ∧ E cls none H'
def TakesA (X : Cx) (W : WX) : Prop := ∀ u s', AirA X W u s' → X.xe u s'
theorem AirA.imp {X : Cx} {W W' : WX} {u : Value} {s' : Shared} (x : AirA X W u s') (h : ∀ c σ H, W c none σ H → W' c none σ H) : AirA X W' u s' := by
  obtain ⟨a, t, B, sI, pins, σ, H, cls, h1, h2, h3, h4, h5, h6, h7, h8, h9⟩ := x
  exact ⟨a, t, B, sI, pins, σ, H, cls, h1, h2, h3, h4, h5, h6, h7, h8, h _ _ _ h9⟩
theorem TakesA.imp {X : Cx} {W W' : WX} (t : TakesA X W) (h : ∀ c σ H, W' c none σ H → W c none σ H) : TakesA X W' := fun u s' x => t u s' (x.imp h)

section
variable {X : Cx} {pins : List (Addr × Obj)} {σ : L2.St} {H : Hp} {sI s s' : Shared} {B : Heap} {W : WX} {E : XK}
theorem frs_there (I : Inv X pins σ H s) {b : Addr} (hb : b ∈ frs X.stack) : ∃ o, s.heap.get? b = some o := by
  obtain ⟨_, o, e, _⟩ := I.stack.mem hb
  exact ⟨o, e⟩
/-- what a call let out is in our air -/
theorem AirA.call (I : Inv X pins σ H s) (hW : ∀ cls H', E cls none H' → W cls none σ H') {u : Value} (c : CXA X.prog X.w X.stack H s E u s') : AirA X W u s' := by
  obtain ⟨a, t, B, H', cls, rfl, fl, na, hok, ub, os, ag, hE⟩ := c
  have st : B.StaysIn s'.heap := fl.1
  -- the ground with the frames as they stand
  obtain ⟨G, gin, gout⟩ := restrict s'.heap fun b => (B.get? b).isSome || decide (b ∈ frs X.stack)
  have fromB : ∀ b o, B.get? b = some o → G.get? b = some o := fun b o e => (gin b (by simp [e])).trans (st b o e)
  have atF : ∀ b, b ∈ frs X.stack → G.get? b = s'.heap.get? b := fun b hb => gin b (by simp [hb])
  have back : ∀ b o, G.get? b = some o → s'.heap.get? b = some o ∧ (b ∉ frs X.stack → B.get? b = some o) := fun b o e => by
    by_cases q : ((B.get? b).isSome || decide (b ∈ frs X.stack)) = true
    · rw [gin b q] at e
      refine ⟨e, fun hb => ?_⟩
      rw [decide_eq_false hb, Bool.or_false] at q
      obtain ⟨o', eo⟩ := Option.isSome_iff_exists.mp q
      have z := st b o' eo
      rw [e] at z
      cases z
      exact eo
    · rw [gout b (by simpa using q)] at e
      cases e
  refine ⟨a, t, B, { s with heap := G, gens := s'.gens, drawn := s'.drawn, toks := s'.toks }, pins, σ, H', cls, rfl, ?_, fun b o e hb => (back b o e).2 hb, Heap.UpToSlots.of_keeps fun b o e => (back b o e).1, fun _ _ => .inr (.inl fl), na, os, ag, hW _ _ hE⟩
  refine I.call (ch := []) ⟨fun b o e n hb _ => fromB b o (ub.keep b o e n hb), fun b o e n hb _ => ?_, fun b o e n _ => ub.free b o e n, fun b o e _ => ?_, ub.tups, ub.frzs, ub.tbls⟩ (hok.kept fromB) ag (fun _ z => nomatch z)
  · obtain ⟨sl, q⟩ := ub.slot b o e hb
    exact ⟨sl, (atF b hb).trans q⟩
  · by_cases hb : b ∈ frs X.stack
    · obtain ⟨sl, q⟩ := ub.slot b o e hb
      exact ⟨_, (atF b hb).trans q⟩
    · obtain ⟨o', q⟩ := ub.there b o e hb
      exact ⟨o', fromB b o' q⟩
/-- one is made: its args stand in the new ground -/
theorem AirA.made {a : Addr} {cls : Value} {h' : Heap} (I : Inv X pins σ H s) (hm : Heap.MadeExcOf s.heap h' a cls []) (w : W cls none σ H) : AirA X W (.ref a) { s with heap := h' } := by
  obtain ⟨t, ha, nt, ht⟩ := hm.there
  have tf : t ∉ frs X.stack := fun z => by
    obtain ⟨o, e⟩ := frs_there I z
    rw [nt] at e; cases e
  have ta : t ≠ a := fun z => by
    rw [z, ha] at ht
    cases ht
  refine ⟨a, t, PySem.W.hideAll h' (a :: frs X.stack), s, pins, σ, H, cls, rfl, I, fun b o e hb => ?_, Heap.UpToSlots.of_keeps hm.keeps, fun _ _ => .inl ⟨fun b o e => PySem.W.of_hideAll _ e, PySem.W.hideAll_none _ List.mem_cons_self, ?_, _, _, ha, ⟨rfl, rfl, _, rfl, rfl⟩, rfl, rfl⟩, ⟨⟨_, PySem.W.hideAll_get _ ht fun z => ?_, rfl, _, rfl⟩, I.hok.gone nt, I.hok.gone hm.new⟩, rfl, I.bare, w⟩
  · refine PySem.W.hideAll_get _ (hm.keeps b o e) fun z => ?_
    rcases List.mem_cons.mp z with z | z
    · rw [z, hm.new] at e; cases e
    · exact hb z
  · exact Heap.FunFrames.of_keeps (fun b o e _ => ⟨o, hm.keeps b o e, rfl⟩) (funFrames_none I.stack fun b hb => PySem.W.hideAll_none _ (List.mem_cons_of_mem _ hb))
  · rcases List.mem_cons.mp z with z | z
    · exact ta z
    · exact tf z
/-- it leaves the body -/
theorem AirA.leave (hs : X.stack = X.env :: X.outer) (hf : X.env.frame = some X.env.locals) (hex : X.ex = []) {E₁ : Value → Shared → Prop} (hW : ∀ cls σ H, W cls none σ H → E cls none H) {u : Value} (x : AirA X W u s') :
    wpAny (model X.prog X.w) X.A (leaving X.env u) (fun _ s'' => CXA X.prog X.w X.outer X.H_0 X.s_0 E u s'') E₁ s' := by
  obtain ⟨a, t, B, sI, pins, σ, H, cls, rfl, I, nb, up, air, na, os, ag, w⟩ := x
  have nex : ∀ b, b ∉ X.ex := fun b hb => by rw [hex] at hb; cases hb
  -- an old address outside the callers' frames is no frame at all
  have noF : ∀ b o, X.s_0.heap.get? b = some o → b ∉ X.fs → b ∉ frs X.stack := fun b o e hb hm => (List.mem_cons.mp (I.stkSub b hm)).elim (fun z => by
    have h1 := Heap.lt_size e
    have h2 := I.ok.above
    rw [z] at h1
    exact absurd (Nat.lt_of_lt_of_le h1 h2) (Nat.lt_irrefl _)) hb
  replace air := air _ hf
  rw [hs] at air
  refine PX.AirZ.leave PX.Zown.steady (by rw [I.ok.frames, hs]) hf air fun h' fl up' => ⟨a, t, B, H, cls, rfl, fl, na, I.inGround nb, ?_, os.trans I.os, ag, hW _ _ _ w⟩
  refine ⟨fun b o e n hb => nb b o (I.base.keep b o e n hb (nex b)) (noF b o e hb), fun b o e hb => ?_, fun b o e n => I.base.free b o e n (nex b), fun b o e hb => ?_, I.base.tups, I.base.frzs, I.base.tbls⟩
  · obtain ⟨_, o₀, e₀, nf⟩ := I.ok.funs.mem hb
    rw [e] at e₀
    cases e₀
    obtain ⟨sl1, e1⟩ := I.base.slot b o e (I.ok.frf b hb) hb (nex b)
    obtain ⟨sl2, e2⟩ := up b _ e1 nf
    obtain ⟨sl3, e3⟩ := up' b _ e2 nf
    exact ⟨sl3, e3⟩
  · obtain ⟨o', e1⟩ := I.base.there b o e (nex b)
    exact ⟨o', nb b o' e1 (noF b o e hb)⟩
theorem takesA_of (hs : X.stack = X.env :: X.outer) (hf : X.env.frame = some X.env.locals) (hex : X.ex = []) {E₁ : Value → Shared → Prop}
    (hx : X.xe = fun e s' => wpAny (model X.prog X.w) X.A (leaving X.env e) (fun _ s'' => CXA X.prog X.w X.outer X.H_0 X.s_0 E e s'') E₁ s') : TakesA X (fun cls d _ H => E cls d H) := fun u s' x => by
  rw [hx]
  exact AirA.leave (W := fun cls d _ H => E cls d H) (E := E) hs hf hex (fun _ _ _ h => h) x
theorem passA (tk : TakesA X W) (σ : L2.St) : PassesAt (CXA X.prog X.w) X σ (WE W σ) := fun _ _ _ e s' I c => tk e s' (AirA.call I (fun _ _ h => h) c)

/-! ### raise X() -/
theorem ps_raiseA {Ca : Addr} {x : Str} {p pos pos2 : Pos} (hc : X.calm = true) (tk : TakesA X W) (q : PySem.W.excIn X.K Ca He.veBase "ValueError.__new__" = true) (gC : X.mg x = some (.ref Ca)) (kC : PySem.W.keepIn X.K (.ref Ca) = true)
    (r : Raises X (.ref Ca)) (hg : Gl X x) (hdb : (x == ("__debug__" : Str)) = false) : PS X (.Raise (some (.Call (.Name x p) [] [] pos)) none pos2) (fun _ σ H => W (.ref Ca) none σ H) := by
  refine ⟨fun pins s σ H D I h => ?_⟩
  show wpAny _ _ (do standAt pos2; raiseStmt X.env (some (do let v ← eval (.Call (.Name x p) [] [] pos) X.env; standAt pos2; pure v)) none) _ _ _
  refine wpAny_bind (wpAny_standAt (raise_made (I.ok.hd hc) (wpAny_bind ?_)))
  refine wpAny_Call_Name_kw (ld_glob I hg gC ?_ hdb)
  refine PySem.W.callWith_K0 I.kIn kC ?_
  show wpAny _ _ (call (.ref Ca) []) _ _ _
  obtain ⟨bm, N, nm, qn, bs, hdct, sn, sub, ab, col, dd, k0, k1, k2, k3, k5, mN, hC, hN, hni, T⟩ := exc_obj I.kIn q
  refine wpAny_call_exc_subT PySem.F.excBase_ValueError T hC hN hni (fun h' e hm => wpAny_bind (wpAny_standAt (wpAny_pure ?_))) (Nat.zero_le _)
  obtain ⟨t, he, _, _⟩ := hm.there
  obtain ⟨r1, r2⟩ := r (model X.prog X.w) h' (I.kIn.keeps hm.keeps)
  exact ⟨e, _, _, .ref Ca, rfl, he, rfl, rfl, rfl, r1, r2, tk _ _ (AirA.made I hm h)⟩

/-! ### try: body, except X as n: suite -/
/-- an empty tuple's object -/
def EmptyT (o : Obj) : Prop := o.cls = .type "tuple" ∧ ∃ n, o.data = .seq #[] n
theorem inv_more (I : Inv X pins σ H s) {t : Addr} {ot : Obj} (e : s.heap.get? t = some ot) (n : H t = none) (nl : t ≠ X.env.locals) (nf : t ∉ X.fs) (nc : ∀ v, ot.data ≠ .cell v) : Inv X ((t, ot) :: pins) σ H s :=
  ⟨I.ok, I.os, I.bare, I.base, I.loc, I.cell, I.free, I.freeC, fun p hp => by
    rcases List.mem_append.mp hp with z | z
    · exact I.pin p (List.mem_append_left _ z)
    · rcases List.mem_cons.mp z with z | z
      · subst z; exact ⟨e, n, nl, nf, nc⟩
      · exact I.pin p (List.mem_append_right _ z), I.hok, I.len⟩
theorem inv_less {q : Addr × Obj} (I : Inv X (q :: pins) σ H s) : Inv X pins σ H s :=
  ⟨I.ok, I.os, I.bare, I.base, I.loc, I.cell, I.free, I.freeC, fun p hp => I.pin p (by
    rcases List.mem_append.mp hp with z | z
    · exact List.mem_append_left _ z
    · exact List.mem_append_right _ (List.mem_cons_of_mem _ z)), I.hok, I.len⟩
/-- what the clause wishes of an exception of the body -/
def wAsA (K : PySem.W.Frag) (c : Value) (i : Nat) (ts : Addr → Value → TS) (Wout : WX) (D : Ends) : WX := fun cls _ σ H =>
  ∃ b, PySem.W.exmOne K cls c = some b ∧ (b = true → ∀ a, H a = none → ts a cls { nx := fun σ' H' => D.nx (σ'.set i none) H', rt := D.rt, bk := fun σ' H' => D.bk (σ'.set i none) H', ct := fun σ' H' => D.ct (σ'.set i none) H' } (σ.set i (some (.ref a))) H) ∧
    (b = false → Wout cls none σ H)
theorem ps_tryA {x n : Str} {c : Value} {i : Nat} {body suite : List Stmt} {b₀ : Stmt} {np pos pos' : Pos} {tb : WX → TS} {ts : Addr → Value → TS} {Wout : WX}
    (hs : X.stack = X.env :: X.outer) (hf : X.env.frame = some X.env.locals) (hN : X.N.Nodup) (hi : X.N[i]? = some n) (hln : X.env.kindOf n = some .local) (hc : Names X x c) (tk : TakesA X Wout)
    (hb : ∀ (W : WX) (pn : List (Addr × Obj)) (xe : Value → Shared → Prop), TakesA (X.tr pn xe) W → PassesOwn (model X.prog X.w) X.A X.env xe → PSs (X.tr pn xe) body (tb W))
    (hsu : ∀ (a t : Addr) (oe ot : Obj) (cls : Value) (pn : List (Addr × Obj)), PX.Zown cls none t oe → EmptyT ot → (t, ot) ∈ pn → PSs (X.suite a ((a, oe) :: pn)) (b₀ :: suite) (ts a cls)) :
    PS X (.Try body [.ExceptHandler (some (.Name x np)) (some n) (b₀ :: suite) pos'] [] [] pos) (fun D σ H => tb (wAsA X.K c i ts Wout D) D σ H) := by
  refine ⟨fun pins s σ H D I h => ?_⟩
  have ok := I.ok
  have hfr : X.A.frames = some (X.env :: X.outer) := by rw [ok.frames, hs]
  refine wpAny_Try_except ?_
  refine wpAny_mono ((hb (wAsA X.K c i ts Wout D) (X.pn ++ pins) (fun e s₁ => wpAny (model X.prog X.w) X.A (noteFrame e X.env) (fun _ s₂ => wpAny (model X.prog X.w) X.A (setFlight e none) (fun _ s₃ =>
    wpAny (model X.prog X.w) X.A (handleBy e X.env [.ExceptHandler (some (.Name x np)) (some n) (b₀ :: suite) pos']) (SP X pins D) X.xe s₃) X.xe s₂) X.xe s₁) (fun u s' air => ?_) PassesOwn.looking).run [] s σ H D (I.toTry _) h) (fun f s1 sp => ?_) (fun e s1 he => he)
  · -- it is caught
    obtain ⟨a, t, B, sI, pins', σ', H', cls, rfl, J', nb, up, az, ⟨⟨ot, hot, oc, on⟩, nt, na⟩, os, ag, b, em, yes, no⟩ := air
    have J : Inv X pins σ' H' sI := J'.ofTry ok
    have az : PX.AirZ B (X.env :: X.outer) a (PX.Zown cls none t) X.env.locals s'.heap := by rw [← hs]; exact az _ hf
    have hcls : ∀ o, PX.Zown cls none t o → o.cls = cls := fun o z => z.1
    -- what stands in the ground, or holds a record, is no frame
    have noG : ∀ {h : Heap} {y : Addr} {o : Obj}, h.FunFrames B (X.env :: X.outer) → B.get? y = some o → y ∉ frs (X.env :: X.outer) := fun {h y o} ff e hm => by
      rw [(ff.mem hm).1] at e; cases e
    have noR : ∀ {h : Heap} {y : Addr} {o : Obj} {vs : Array Value}, h.FunFrames B (X.env :: X.outer) → h.get? y = some o → o.data = .fields vs → y ∉ frs (X.env :: X.outer) := fun {h y o vs} ff e dd hm => by
      obtain ⟨_, o', e', hnf⟩ := ff.mem hm
      rw [e] at e'; cases e'
      exact hnf _ dd
    have off : ∀ {y : Addr}, y ∉ frs (X.env :: X.outer) → y ≠ X.env.locals ∧ y ∉ X.fs := fun {y} hy => ⟨fun z => hy (List.mem_filterMap.mpr ⟨X.env, List.mem_cons_self, by rw [hf, z]⟩), fun hm => by
      obtain ⟨e, he, q⟩ := List.mem_filterMap.mp hm
      exact hy (List.mem_filterMap.mpr ⟨e, List.mem_cons_of_mem _ he, q⟩)⟩
    have otc : ∀ v, ot.data ≠ .cell v := fun v z => by
      obtain ⟨m, e⟩ := on
      rw [e] at z; cases z
    show wpAny (model X.prog X.w) X.A (noteFrame (.ref a) X.env) _ _ _
    refine PX.AirZ.land PX.Zown.steady hfr hf az fun h3 fl3 up3 => ?_
    have J3 : Inv X pins σ' H' { s' with heap := h3 } := J.landed nb fl3.1 (up.trans up3) os ag
    obtain ⟨oe3, vs3, he3, hz3, hd3⟩ := fl3.there
    have na3 := off (noR fl3.2.2.1 he3 hd3)
    have S3 := J3.suite he3 hd3 na na3.1 na3.2
    have test : ∀ {Q : Value → Shared → Prop} {E : Value → Shared → Prop}, Q c { s' with heap := h3 } → wpAny (model X.prog X.w) (X.A.mark (some (.ref a))) (eval (.Name x np) X.env) Q E { s' with heap := h3 } := fun {Q E} q => by
      obtain ⟨hg, hdbg, hm | ⟨hm, hv, hnn⟩⟩ := hc
      · exact ld_glob (X := X.suite a ((a, oe3) :: (X.pn ++ pins))) S3 hg hm q hdbg
      · exact ld_blt (X := X.suite a ((a, oe3) :: (X.pn ++ pins))) S3 hg hm hv q hnn hdbg
    cases b with
    | false =>
      refine PX.clause_passZ J3.kIn hcls fl3 em test (PX.no_clauseZ hf fl3 fun h4 hh4 up4 => tk _ _ ?_)
      exact ⟨a, t, B, sI, pins, σ', H', cls, rfl, J, nb, (up.trans up3).trans up4, fun F hF => (by cases hf.symm.trans hF; exact .inr (.inr (by rw [hs]; exact hh4))), ⟨⟨ot, hot, oc, on⟩, nt, na⟩, os, ag, no rfl⟩
    | true =>
      refine PX.clause_asZ J3.kIn hcls fl3 em test fun h4 fl4 up4 => ?_
      have J4 : Inv X pins σ' H' { s' with heap := h4 } := J.landed nb fl4.1 ((up.trans up3).trans up4) os ag
      obtain ⟨oe4, vs4, he4, hz4, hd4⟩ := fl4.there
      have nt4 := off (noG fl4.2.2.1 hot)
      have J5 : Inv X ((t, ot) :: pins) σ' H' { s' with heap := h4 } := inv_more J4 (fl4.1 t ot hot) nt nt4.1 nt4.2 otc
      have S4 := J5.suite he4 hd4 na na3.1 na3.2
      refine store_ok (X := X.suite a ((a, oe4) :: (X.pn ++ (t, ot) :: pins))) (v := .ref a) S4 hN hi (.inl hln) rfl (fun s5 S5 => ?_) (.inr hln)
      refine wpAny_mono ((hsu a t oe4 ot cls (X.pn ++ (t, ot) :: pins) hz4 ⟨oc, on⟩ (List.mem_append_right _ List.mem_cons_self)).run [] s5 _ H' _ S5 (yes rfl a na)) (fun f s6 sp => ?_) (fun _ _ z => False.elim z)
      have gone : ∀ {σ6 : L2.St} {H6 : Hp} {Q : Shared → Prop}, Inv (X.suite a ((a, oe4) :: (X.pn ++ (t, ot) :: pins))) [] σ6 H6 s6 → (∀ s7, Inv X pins (σ6.set i none) H6 s7 → Q s7) →
          wpAny (model X.prog X.w) X.A (do bindName X.env n .none; unbindBehindTheSuite X.env n pos') (fun _ s7 => Q s7) X.xe s6 := fun {σ6 H6 Q} S6 hq => gone_ok (S6.unsuite ok) hN hi hln fun s7 J7 => hq s7 (inv_less J7)
      cases f with
      | next =>
        obtain ⟨σ6, H6, S6, q⟩ := sp
        exact gone S6 fun s7 J7 => ⟨_, _, J7, q⟩
      | brk =>
        obtain ⟨σ6, H6, S6, q⟩ := sp
        exact gone S6 fun s7 J7 => ⟨_, _, J7, q⟩
      | cont =>
        obtain ⟨σ6, H6, S6, q⟩ := sp
        exact gone S6 fun s7 J7 => ⟨_, _, J7, q⟩
      | ret u =>
        obtain ⟨v, σ6, H6, S6, r, q⟩ := sp
        exact gone S6 fun s7 J7 => ⟨_, _, _, J7, r, q⟩
  · -- nothing was raised
    cases f with
    | next =>
      obtain ⟨σ', H', J, q⟩ := sp
      exact wpAny_execs_nil ⟨σ', H', J.ofTry ok, q⟩
    | brk =>
      obtain ⟨σ', H', J, q⟩ := sp
      exact ⟨σ', H', J.ofTry ok, q⟩
    | cont =>
      obtain ⟨σ', H', J, q⟩ := sp
      exact ⟨σ', H', J.ofTry ok, q⟩
    | ret u =>
      obtain ⟨v, σ', H', J, r, q⟩ := sp
      exact ⟨v, σ', H', J.ofTry ok, r, q⟩
/-- what a clause without a name wishes of an exception of the body -/
def wOnlyA (K : PySem.W.Frag) (c : Value) (ts : Addr → Value → TS) (Wout : WX) (D : Ends) : WX := fun cls _ σ H =>
  ∃ b, PySem.W.exmOne K cls c = some b ∧ (b = true → ∀ a, H a = none → ts a cls D σ H) ∧ (b = false → Wout cls none σ H)
theorem ps_onlyA {x : Str} {c : Value} {body suite : List Stmt} {b₀ : Stmt} {np pos pos' : Pos} {tb : WX → TS} {ts : Addr → Value → TS} {Wout : WX}
    (hs : X.stack = X.env :: X.outer) (hf : X.env.frame = some X.env.locals) (hc : Names X x c) (tk : TakesA X Wout)
    (hb : ∀ (W : WX) (pn : List (Addr × Obj)) (xe : Value → Shared → Prop), TakesA (X.tr pn xe) W → PassesOwn (model X.prog X.w) X.A X.env xe → PSs (X.tr pn xe) body (tb W))
    (hsu : ∀ (a : Addr) (oe : Obj) (cls : Value) (pn : List (Addr × Obj)), PSs (X.suite a ((a, oe) :: pn)) (b₀ :: suite) (ts a cls)) :
    PS X (.Try body [.ExceptHandler (some (.Name x np)) none (b₀ :: suite) pos'] [] [] pos) (fun D σ H => tb (wOnlyA X.K c ts Wout D) D σ H) := by
  refine ⟨fun pins s σ H D I h => ?_⟩
  have ok := I.ok
  have hfr : X.A.frames = some (X.env :: X.outer) := by rw [ok.frames, hs]
  refine wpAny_Try_except ?_
  refine wpAny_mono ((hb (wOnlyA X.K c ts Wout D) (X.pn ++ pins) (fun e s₁ => wpAny (model X.prog X.w) X.A (noteFrame e X.env) (fun _ s₂ => wpAny (model X.prog X.w) X.A (setFlight e none) (fun _ s₃ =>
    wpAny (model X.prog X.w) X.A (handleBy e X.env [.ExceptHandler (some (.Name x np)) none (b₀ :: suite) pos']) (SP X pins D) X.xe s₃) X.xe s₂) X.xe s₁) (fun u s' air => ?_) PassesOwn.looking).run [] s σ H D (I.toTry _) h) (fun f s1 sp => ?_) (fun e s1 he => he)
  · -- it is caught
    obtain ⟨a, t, B, sI, pins', σ', H', cls, rfl, J', nb, up, az, ⟨⟨ot, hot, oc, on⟩, nt, na⟩, os, ag, b, em, yes, no⟩ := air
    have J : Inv X pins σ' H' sI := J'.ofTry ok
    have az : PX.AirZ B (X.env :: X.outer) a (PX.Zown cls none t) X.env.locals s'.heap := by rw [← hs]; exact az _ hf
    have hcls : ∀ o, PX.Zown cls none t o → o.cls = cls := fun o z => z.1
    -- what stands in the ground, or holds a record, is no frame
    have noG : ∀ {h : Heap} {y : Addr} {o : Obj}, h.FunFrames B (X.env :: X.outer) → B.get? y = some o → y ∉ frs (X.env :: X.outer) := fun {h y o} ff e hm => by
      rw [(ff.mem hm).1] at e; cases e
    have noR : ∀ {h : Heap} {y : Addr} {o : Obj} {vs : Array Value}, h.FunFrames B (X.env :: X.outer) → h.get? y = some o → o.data = .fields vs → y ∉ frs (X.env :: X.outer) := fun {h y o vs} ff e dd hm => by
      obtain ⟨_, o', e', hnf⟩ := ff.mem hm
      rw [e] at e'; cases e'
      exact hnf _ dd
    have off : ∀ {y : Addr}, y ∉ frs (X.env :: X.outer) → y ≠ X.env.locals ∧ y ∉ X.fs := fun {y} hy => ⟨fun z => hy (List.mem_filterMap.mpr ⟨X.env, List.mem_cons_self, by rw [hf, z]⟩), fun hm => by
      obtain ⟨e, he, q⟩ := List.mem_filterMap.mp hm
      exact hy (List.mem_filterMap.mpr ⟨e, List.mem_cons_of_mem _ he, q⟩)⟩
    have otc : ∀ v, ot.data ≠ .cell v := fun v z => by
      obtain ⟨m, e⟩ := on
      rw [e] at z; cases z
    show wpAny (model X.prog X.w) X.A (noteFrame (.ref a) X.env) _ _ _
    refine PX.AirZ.land PX.Zown.steady hfr hf az fun h3 fl3 up3 => ?_
    have J3 : Inv X pins σ' H' { s' with heap := h3 } := J.landed nb fl3.1 (up.trans up3) os ag
    obtain ⟨oe3, vs3, he3, hz3, hd3⟩ := fl3.there
    have na3 := off (noR fl3.2.2.1 he3 hd3)
    have S3 := J3.suite he3 hd3 na na3.1 na3.2
    have test : ∀ {Q : Value → Shared → Prop} {E : Value → Shared → Prop}, Q c { s' with heap := h3 } → wpAny (model X.prog X.w) (X.A.mark (some (.ref a))) (eval (.Name x np) X.env) Q E { s' with heap := h3 } := fun {Q E} q => by
      obtain ⟨hg, hdbg, hm | ⟨hm, hv, hnn⟩⟩ := hc
      · exact ld_glob (X := X.suite a ((a, oe3) :: (X.pn ++ pins))) S3 hg hm q hdbg
      · exact ld_blt (X := X.suite a ((a, oe3) :: (X.pn ++ pins))) S3 hg hm hv q hnn hdbg
    cases b with
    | false =>
      refine PX.clause_passZ J3.kIn hcls fl3 em test (PX.no_clauseZ hf fl3 fun h4 hh4 up4 => tk _ _ ?_)
      exact ⟨a, t, B, sI, pins, σ', H', cls, rfl, J, nb, (up.trans up3).trans up4, fun F hF => (by cases hf.symm.trans hF; exact .inr (.inr (by rw [hs]; exact hh4))), ⟨⟨ot, hot, oc, on⟩, nt, na⟩, os, ag, no rfl⟩
    | true =>
      refine PX.clause_onlyZ J3.kIn hcls fl3 em test fun h4 fl4 up4 => ?_
      have J4 : Inv X pins σ' H' { s' with heap := h4 } := J.landed nb fl4.1 ((up.trans up3).trans up4) os ag
      obtain ⟨oe4, vs4, he4, hz4, hd4⟩ := fl4.there
      have S4 := J4.suite he4 hd4 na na3.1 na3.2
      refine wpAny_mono ((hsu a oe4 cls (X.pn ++ pins)).run [] _ _ H' _ S4 (yes rfl a na)) (fun f s6 sp => ?_) (fun _ _ z => False.elim z)
      cases f with
      | next =>
        obtain ⟨σ6, H6, S6, q⟩ := sp
        exact ⟨_, _, S6.unsuite ok, q⟩
      | brk =>
        obtain ⟨σ6, H6, S6, q⟩ := sp
        exact ⟨_, _, S6.unsuite ok, q⟩
      | cont =>
        obtain ⟨σ6, H6, S6, q⟩ := sp
        exact ⟨_, _, S6.unsuite ok, q⟩
      | ret u =>
        obtain ⟨v, σ6, H6, S6, r, q⟩ := sp
        exact ⟨_, _, _, S6.unsuite ok, r, q⟩
  · -- nothing was raised
    cases f with
    | next =>
      obtain ⟨σ', H', J, q⟩ := sp
      exact wpAny_execs_nil ⟨σ', H', J.ofTry ok, q⟩
    | brk =>
      obtain ⟨σ', H', J, q⟩ := sp
      exact ⟨σ', H', J.ofTry ok, q⟩
    | cont =>
      obtain ⟨σ', H', J, q⟩ := sp
      exact ⟨σ', H', J.ofTry ok, q⟩
    | ret u =>
      obtain ⟨v, σ', H', J, r, q⟩ := sp
      exact ⟨v, σ', H', J.ofTry ok, r, q⟩
end
end Lw
set_option maxHeartbeats 4000000
/-! LwRc: list comprehensions whose element may raise an own exception. -/
namespace Lw
open PySem PySem.Spec PyProof.Rows L2

/-- a block's context that owes something of an exception -/
abbrev blkX (X : Cx) (s : Shared) (H : Hp) (scope : Scope) (cenv : Env) (fp : List Addr) (xe : Value → Shared → Prop) : Cx := { X.blk s H scope cenv fp with xe := xe }
section
variable {X : Cx} {pins : List (Addr × Obj)} {σ : L2.St} {H H0 : Hp} {s s0 : Shared} {scope : Scope} {cenv : Env} {fp : List Addr} {xe : Value → Shared → Prop}
theorem okX (o : (X.blk s0 H0 scope cenv fp).Ok) : (blkX X s0 H0 scope cenv fp xe).Ok :=
  ⟨o.mod, o.kind, o.glob, o.blt, o.above, o.inj, o.has, o.cab, o.hd, o.frames, o.stk, o.exf, o.bs, o.bsz, o.noex, o.exfs, o.funs, o.frf⟩
theorem invX (I : Inv (X.blk s0 H0 scope cenv fp) pins σ H s) : Inv (blkX X s0 H0 scope cenv fp xe) pins σ H s :=
  ⟨okX I.ok, I.os, I.bare, I.base, I.loc, I.cell, I.free, I.freeC, I.pin, I.hok, I.len⟩
/-- an untracked thing of ours is hidden -/
theorem inv_hide {D : Addr} (I : Inv X pins σ H s) (f : FpOk X pins H D) : Inv X pins σ H { s with heap := PySem.W.hideAll s.heap [D] } := by
  obtain ⟨f0, f1, f2, f3, f4, f5⟩ := f
  refine I.step (g' := s.gens) (d' := s.drawn) (t' := s.toks) (ch := [D]) (fun b hb => ?_) (fun b o _ _ hc e _ => PySem.W.hideAll_get _ e hc) (fun b o _ _ hc e _ => ⟨o.slots, PySem.W.hideAll_get _ e hc⟩) (fun _ _ _ _ n => n)
    (fun b o hc e => ⟨o, PySem.W.hideAll_get _ e hc⟩) (fun _ _ e => e) (fun _ _ _ e => e) (fun b ps e => ⟨#[], by rw [e]; simp⟩) (fun m hm => ?_) (fun b u e => ?_) I.bare
  · have e : b = D := by simpa using hb
    subst e
    exact ⟨f3, f1, f4, f5⟩
  · obtain ⟨o, es, ep, ho, r⟩ := hm
    exact ⟨o, es, ep, PySem.W.hideAll_get _ ho (fun z => f1 (List.mem_singleton.mp z).symm), r⟩
  · refine (I.hok b u e).stay (fun c v hc q => PySem.W.hideAll_get _ q fun z => ?_) (fun _ q => q) fun _ _ q => q
    have z : c = D := by simpa using z
    rcases hc with r | r
    · rw [← r, z, f0] at e; cases e
    · rw [z, f0] at r; cases r
/-- what an exception in a block becomes -/
theorem air_block {W : WX} {E0 : Env} {O : List Env} {L : Addr} {u : Value} {s' : Shared} {xe' : Value → Shared → Prop} (I3 : Inv X pins σ H0 s0) (hfp : ∀ b ∈ fp, FpOk X pins H0 b) (hL : cenv.locals = s0.heap.objs.size)
    (hst : X.stack = E0 :: O) (hf0 : E0.frame = some L) (hXf : X.env.frame = some L) (hcf : cenv.frame = E0.frame) (tk : TakesA X W)
    (x : AirA (blkX X s0 H0 scope cenv fp xe') (fun cls _ _ H => W cls none σ H) u s') : notedBy (model X.prog X.w) X.A cenv (CompFails (model X.prog X.w) X.A X.xe cenv) u s' := by
  obtain ⟨a, t, B, sI, pins', σ', H', cls, rfl, J, nb, up, air, ⟨⟨ot, hot, oc, n, od⟩, nt, na⟩, os, ag, w⟩ := x
  have hfr : X.A.frames = some (E0 :: O) := by rw [I3.ok.frames, hst]
  have air : PX.AirZ B (E0 :: O) a (PX.Zown cls none t) L s'.heap := by
    rw [← hst]
    exact air L (hcf.trans hf0)
  obtain ⟨mC, hnC, _⟩ := J.loc
  have hnC : sI.heap.Ns cenv.locals mC := hnC
  have J7 : Inv X pins σ H' sI := I3.call' (ch := fp) J.os J.base J.hok J.bare fun b hb => ⟨(hfp b hb).2.2.2.1, (hfp b hb).2.1, (hfp b hb).2.2.2.2.1, (hfp b hb).2.2.2.2.2⟩
  have nC : H' cenv.locals = none := J.free
  have fC : FpOk X pins H' cenv.locals := by
    rw [hL] at nC ⊢
    exact I3.fpOk (Nat.le_refl _) nC
  have J8 := inv_hide J7 fC
  have fin : ∀ h1, PX.HeldZ B (E0 :: O) a (PX.Zown cls none t) L h1 → s'.heap.UpToSlots h1 → CompFails (model X.prog X.w) X.A X.xe cenv (.ref a) { s' with heap := h1 } := fun h1 hh up1 => by
    have up01 := up.trans up1
    refine ⟨mC, up01.ns hnC, fun h2 m2 hn2 sb => ?_⟩
    obtain ⟨b1, b0, f1, oe, vs, T, oT, ts, he, hz, hd, h1', hnT, hTe, hT, hdT, h3⟩ := hh
    obtain ⟨oC, esC, epC, hoC, hdC, _⟩ := up01.ns hnC
    have neC : ∀ {y : Addr} {o : Obj} {vs : Array Value}, h1.get? y = some o → o.data = .fields vs → y ≠ cenv.locals := fun {y o vs} e d z => by
      rw [z, hoC] at e
      cases e
      rw [hdC] at d
      cases d
    have bB : ∀ b o, (PySem.W.hideAll B [cenv.locals]).get? b = some o → B.get? b = some o ∧ b ≠ cenv.locals := fun b o e => by
      refine ⟨PySem.W.of_hideAll _ e, fun z => ?_⟩
      rw [z, PySem.W.hideAll_none _ List.mem_cons_self] at e
      cases e
    have fl2 : h2.FunFrames (PySem.W.hideAll B [cenv.locals]) (E0 :: O) := funFrames_none (Heap.FunFrames.sameBut sb hn2 f1) fun b hb => by
      cases q : (PySem.W.hideAll B [cenv.locals]).get? b with
      | none => rfl
      | some o =>
        have z := (f1.mem hb).1
        rw [(bB b o q).1] at z
        cases z
    have hh2 : PX.HeldZ (PySem.W.hideAll B [cenv.locals]) (E0 :: O) a (PX.Zown cls none t) L h2 := by
      refine ⟨fun b o e => (sb.2 b (bB b o e).2).trans (b1 b o (bB b o e).1), ?_, fl2, oe, vs, T, oT, ts, (sb.2 a (neC he hd)).trans he, hz, hd, h1', ?_, hTe, (sb.2 T (neC hT hdT)).trans hT, hdT, h3⟩
      · cases q : (PySem.W.hideAll B [cenv.locals]).get? a with
        | none => rfl
        | some o => rw [(bB a o q).1] at b0; cases b0
      · cases q : (PySem.W.hideAll B [cenv.locals]).get? T with
        | none => rfl
        | some o => rw [(bB T o q).1] at hnT; cases hnT
    show wpAny _ _ (PySem.passOn _ (.ref a) cenv : Sem Value) _ _ _
    unfold PySem.passOn
    refine wpAny_bind (wpAny_field ((sb.2 a (neC he hd)).trans he) hd h1' ?_)
    rw [if_neg (show ¬ ((Value.ref T == Value.none) = true) from by simp)]
    rw [hcf, hf0]
    refine wpAny_bind (PX.setFlight_onZ hh2 fun h4 hh4 up4 => ?_)
    refine wpAny_throw (tk _ _ ?_)
    have tC : t ≠ cenv.locals := fun z => by
      have e := b1 t ot hot
      rw [z, hoC] at e
      cases e
      rw [od] at hdC
      cases hdC
    refine ⟨a, t, PySem.W.hideAll B [cenv.locals], { sI with heap := PySem.W.hideAll sI.heap [cenv.locals] }, pins, σ, H', cls, rfl, J8, fun b o e hb => ?_, fun b o e hnf => ?_, fun F hF => ?_, ⟨⟨ot, ?_, oc, n, od⟩, nt, na⟩, os, ag, w⟩
    · have e1 : sI.heap.get? b = some o := PySem.W.of_hideAll _ e
      refine PySem.W.hideAll_get _ (nb b o e1 hb) fun z => ?_
      have z : b = cenv.locals := by simpa using z
      have e2 : (PySem.W.hideAll sI.heap [cenv.locals]).get? b = some o := e
      rw [z, PySem.W.hideAll_none _ List.mem_cons_self] at e2
      cases e2
    · have e2 : (PySem.W.hideAll sI.heap [cenv.locals]).get? b = some o := e
      have ne : b ≠ cenv.locals := fun z => by
        rw [z, PySem.W.hideAll_none _ List.mem_cons_self] at e2
        cases e2
      obtain ⟨sl, e3⟩ := up01 b o (PySem.W.of_hideAll _ e2) hnf
      obtain ⟨sl2, e4⟩ := up4 b { o with slots := sl } ((sb.2 b ne).trans e3) hnf
      exact ⟨sl2, e4⟩
    · have e : F = L := by
        rw [hXf] at hF
        exact (Option.some.inj hF).symm
      subst e
      rw [hst]
      exact .inr (.inr hh4)
    · exact PySem.W.hideAll_get _ hot fun z => tC (by simpa using z)
  show wpAny _ _ (noteFrame (.ref a) cenv) _ _ _
  rcases air with ⟨hB, hn, hl, oe, vs, he, hz, hd, h1⟩ | fl | hh
  · rw [noteFrame_env _ hcf]
    exact PX.look_newZ PX.Zown.steady hfr hl hf0 he hB hn hd h1 hz fin
  · rw [noteFrame_env _ hcf]
    exact PX.looks_onZ PX.Zown.steady hfr hf0 fl fin
  · rw [noteFrame_env _ hcf]
    exact PX.againZ hf0 hh.2.2.2 (fin s'.heap hh (Heap.UpToSlots.refl _))
/-- [elt for tg in iter if ..], the element's exception is the def's -/
theorem lcX_core {pins : List (Addr × Obj)} {s : Shared} {σ : L2.St} {H : Hp} {Q : VK} {elt tg iter : Expr} {ifs : List Expr} {own : List (Str × Nat)} {pos pos' : Pos} {wi : TI} {gT : TG} {tt : TT} {tX : WX → TE} {E0 : Env} {O : List Env} {L : Addr} {W : WX} {use : Option (Value → Sem Unit)} {Qf : Value → Shared → Prop}
    (hst : X.stack = E0 :: O) (hf0 : E0.frame = some L) (hXf : X.env.frame = some L) (tk : TakesA X W)
    (calm : X.calm = true) (nd : X.N.Nodup) (I : Inv X pins σ H s) (hi : PI X tg iter wi) (ok : BlkOk X.N X.env.scope scope own)
    (hg : ∀ s H C cl fp xe, PG (blkX X s H scope (compEnvC scope cl C X.env) fp xe) tg gT) (ht : ∀ s H C cl fp xe, PTs (blkX X s H scope (compEnvC scope cl C X.env) fp xe) ifs tt)
    (he : ∀ s H C cl fp xe W', TakesA (blkX X s H scope (compEnvC scope cl C X.env) fp xe) W' → PE (blkX X s H scope (compEnvC scope cl C X.env) fp xe) elt (tX W')) (hs : ∀ x, foldedSetIterable iter X.env x = pure x)
    (h : tLc wi gT tt (tX fun cls _ _ H' => W cls none σ H') (own.map (·.2)) σ H Q)
    (hRR : ∀ D ce s' m H', Inv X pins σ H' s' → Q (.ref D) H' → s'.heap.Ns ce.locals m → FpOk X pins H' ce.locals → compEnds (model X.prog X.w) X.A X.xe use Qf (.ref D) ce (.ok .next) s') :
    wpAny (model X.prog X.w) X.A (comprehension (.ListComp elt [⟨tg, iter, ifs, 0⟩] scope pos) scope X.env pos' (newList []) false (eval iter X.env) use) Qf X.xe s := by
  have caught : ∀ y ∈ scope.names, y.2 = .free → ∃ cc, X.env.cells.lookup y.1 = some cc := fun y hy e => (ok.free y hy e).elim (fun q => I.ok.has _ (.inl q)) fun q => I.ok.has _ (.inr q)
  refine comprehension_at (use := use) (Q := Qf) rfl hs (closure_ok caught) ok.kind (fun y hy e => by rw [ok.uniq y hy, e]) (thn (hi.run pins s σ H _ I h) fun w s1 q1 => thn q1 fun iv s2 q2 => ?_)
  obtain ⟨it, fp, tn, J, H2, rfl, I2, T, st2, f2, q⟩ := q2
  refine wpAny_newObj_type (newEnv_comp ?_) (by show 0 ≤ sizeLine; decide)
  obtain ⟨D, eD⟩ : ∃ D, D = s2.heap.objs.size := ⟨_, rfl⟩
  have freeD : H2 D = none := I2.hok.fresh (Nat.le_of_eq eD.symm)
  obtain ⟨Wm, ⟨m0, first⟩, turn⟩ := q D freeD
  obtain ⟨s3, e3⟩ : ∃ s3 : Shared, s3 = { s2 with heap := s2.heap.push { cls := .type "list", data := .seq ([] : List Value).toArray } } := ⟨_, rfl⟩
  have hp3 : s3.heap = s2.heap.push { cls := .type "list", data := .seq ([] : List Value).toArray } := by rw [e3]
  have I3 : Inv X pins σ (upd H2 D (.lst [])) s3 := by
    rw [e3]
    refine I2.laid (t' := s2.toks) (fun _ _ e => Heap.get?_push_of_some _ e) (Nat.le_of_eq eD.symm) ⟨Nat.zero_le _, [], 0, .nil, ?_⟩
    rw [eD]
    exact Heap.get?_push_size _ rfl
  have below : ∀ b ∈ fp, b < s2.heap.objs.size := fun b hb => let ⟨_, e, _⟩ := T.obj _ _ st2 b hb; Heap.lt_size e
  have f3 : ∀ b ∈ fp, FpOk X pins (upd H2 D (.lst [])) b ∧ b < s3.heap.objs.size := fun b hb => by
    have lt := below b hb
    exact ⟨⟨by rw [upd_ne (by rw [eD]; exact Nat.ne_of_lt lt)]; exact (f2 b hb).1, (f2 b hb).2⟩, by rw [hp3, Heap.size_push]; exact Nat.lt_succ_of_lt lt⟩
  have st3 : tn 0 s3.heap := T.keep _ _ _ st2 fun _ _ _ e => by rw [hp3]; exact Heap.get?_push_of_some _ e
  have I4 := block_start I3 ok nd f3
  obtain ⟨cl, ecl⟩ : ∃ cl, cl = cellsFrom (s3.heap.objs.size + 1) scope.names (cloFrom X.env.cells scope.names []) := ⟨_, rfl⟩
  rw [← ecl] at I4
  rw [← e3, ← eD, ← ecl]
  obtain ⟨ce, ece⟩ : ∃ ce, ce = compEnvC scope cl s3.heap.objs.size X.env := ⟨_, rfl⟩
  have cf : ce.frame = E0.frame := by rw [ece, hf0, ← hXf]; rfl
  have cL : ce.locals = s3.heap.objs.size := by rw [ece]; rfl
  obtain ⟨s4, e4⟩ : ∃ s4 : Shared, s4 = { s3 with heap := pushCells (s3.heap.push { cls := .type "dict", data := .dict #[] }) scope.names } := ⟨_, rfl⟩
  rw [← e4] at I4 ⊢
  -- what the block owes of an exception
  obtain ⟨xe, exe⟩ : ∃ xe : Value → Shared → Prop, xe = notedBy (model X.prog X.w) X.A ce (CompFails (model X.prog X.w) X.A X.xe ce) := ⟨_, rfl⟩
  have tkB : TakesA (blkX X s3 (upd H2 D (.lst [])) scope ce fp xe) fun cls _ _ H' => W cls none σ H' := fun u s' x => by
    show xe u s'
    rw [exe]
    exact air_block I3 (fun b hb => (f3 b hb).1) cL hst hf0 hXf cf tk x
  have pg := hg s3 (upd H2 D (.lst [])) s3.heap.objs.size cl fp xe
  have pt := ht s3 (upd H2 D (.lst [])) s3.heap.objs.size cl fp xe
  have pe := he s3 (upd H2 D (.lst [])) s3.heap.objs.size cl fp xe (fun cls _ _ H' => W cls none σ H') (by rw [← ece]; exact tkB)
  rw [← ece] at I4 pg pt pe
  have I4 : Inv (blkX X s3 (upd H2 D (.lst [])) scope ce fp xe) [] (L2.wipe σ (own.map (·.2))) (upd H2 D (.lst [])) s4 := invX I4
  have noH : ∀ b ∈ fp, (upd H2 D (.lst [])) b = none := fun b hb => (f3 b hb).1.1
  obtain ⟨H3, eH3⟩ : ∃ H3, H3 = upd H2 D (.lst []) := ⟨_, rfl⟩
  rw [← eH3] at I3 I4 pg pt pe first noH f3
  have st4 : tn 0 s4.heap := T.keep _ _ _ st3 fun _ _ _ e => by rw [e4]; exact pushCells_keeps _ _ _ _ (Heap.get?_push_of_some _ e)
  have fpB : ∀ {σ' : L2.St} {H' : Hp} {s' : Shared}, Inv (blkX X s3 H3 scope ce fp xe) [] σ' H' s' → (∀ b ∈ fp, H' b = none) → ∀ b ∈ fp, FpOk (blkX X s3 H3 scope ce fp xe) [] H' b := fun {σ' H' s'} I' hn b hb =>
    ⟨hn b hb, (I'.ok.exf b hb).1, I'.ok.exfs b hb, .inl hb, fun y cc e => (I'.ok.exf b hb).2 y cc e, fun p hp => nomatch (show p ∈ ([] : List (Addr × Obj)) from hp)⟩
  show codeAny _ _ (.compStart (.ListComp elt [⟨tg, iter, ifs, 0⟩] scope pos) 0 (.ref it) (.ref D) (compEnvC scope cl s3.heap.objs.size X.env)) (compEnds (model X.prog X.w) X.A X.xe use Qf (.ref D) (compEnvC scope cl s3.heap.objs.size X.env)) s4
  rw [← ece]
  have loop : codeAny (model X.prog X.w) X.A (.compLoop (.ListComp elt [⟨tg, iter, ifs, 0⟩] scope pos) 0 (.ref it) (.ref D) ce) (compEnds (model X.prog X.w) X.A X.xe use Qf (.ref D) ce) s4 := by
    refine compLoop_any (fun n s' => ∃ i H', Inv (blkX X s3 H3 scope ce fp xe) [] (L2.wipe σ (own.map (·.2))) H' s' ∧ tn i s'.heap ∧ (∀ b ∈ fp, H' b = none) ∧ Wm i n H') ?_ m0 ⟨0, H3, I4, st4, noH, first⟩
    rintro n s5 ⟨i, H5, I5, st5, n5, w5⟩
    have toXe : ∀ e s', xe e s' → notedBy (model X.prog X.w) X.A ce (fun e s' => compEnds (model X.prog X.w) X.A X.xe use Qf (.ref D) ce (.error e) s') e s' := fun e s' q => by
      rw [exe] at q
      cases use <;> exact q
    rcases turn i n H5 w5 with ⟨stop, qq⟩ | ⟨go, Nx, hNx, step⟩
    · refine thnF (T.done (blkX X s3 H3 scope ce fp xe) rfl rfl rfl calm i [] s5 _ H5 (fun _ _ => False) I5 (fpB I5 n5) st5 stop) fun r s6 ⟨hr, I6⟩ => ?_
      subst hr
      have I7 : Inv X pins σ H5 s6 := I3.call' (ch := fp) I6.os I6.base I6.hok I6.bare fun b hb => ⟨(f3 b hb).1.2.2.2.1, (f3 b hb).1.2.1, (f3 b hb).1.2.2.2.2.1, (f3 b hb).1.2.2.2.2.2⟩
      obtain ⟨m, hm, _⟩ := I6.loc
      have hm : s6.heap.Ns ce.locals m := hm
      have freeC : H5 ce.locals = none := I6.free
      refine hRR D ce s6 m H5 I7 qq hm ?_
      rw [cL] at freeC ⊢
      exact I3.fpOk (Nat.le_refl _) freeC
    · refine thnF (T.item (blkX X s3 H3 scope ce fp xe) rfl rfl rfl calm i [] s5 _ H5 (fun _ _ => False) I5 (fpB I5 n5) st5 go) fun r s6 ⟨u, hr, h6⟩ => ?_
      subst hr
      refine thnF h6 fun _ s7 ⟨x, H7, I7, r7, y7, st7, n7⟩ => ?_
      have I7' := I7.pinned (fpB I7 n7) (T.obj _ _ st7)
      refine wpAny_mono (pg.run _ s7 _ H7 x u _ I7' r7 (step x H7 y7)) (fun _ s8 ⟨σ8, H8, I8, hw8, q8⟩ => ?_) toXe
      refine wpAny_mono (pt.run _ s8 σ8 H8 _ I8 q8) (fun b s9 ⟨H9, I9, q9⟩ => ?_) toXe
      have next : ∀ {s' : Shared} {H' : Hp}, Inv (blkX X s3 H3 scope ce fp xe) ([] ++ pinsAt fp s7.heap) σ8 H' s' → Nx H' → ∃ m, m < n ∧ ∃ i H', Inv (blkX X s3 H3 scope ce fp xe) [] (L2.wipe σ (own.map (·.2))) H' s' ∧ tn i s'.heap ∧ (∀ b ∈ fp, H' b = none) ∧ Wm i m H' := fun {s' H'} I' nx => by
        obtain ⟨m', lt, w'⟩ := hNx H' nx
        have pinned : ∀ b ∈ fp, ∀ o, s7.heap.get? b = some o → s'.heap.get? b = some o ∧ H' b = none := fun b hb o e => by
          have z := I'.pin (b, o) (List.mem_append_right _ (List.mem_append_right _ (mem_pinsAt hb e)))
          exact ⟨z.1, z.2.1⟩
        refine ⟨m', lt, i + 1, H', (I'.unpinned (pins := [])).weak (by rw [← hw8, wipe_length]) (fun j v e => ?_), T.keep _ _ _ st7 fun b hb o e => (pinned b hb o e).1, fun b hb => ?_, w'⟩
        · rw [← hw8] at e
          exact (wipe_some e).1
        · obtain ⟨o, e, _⟩ := T.obj _ _ st7 b hb
          exact (pinned b hb o e).2
      cases b with
      | false =>
        rw [if_neg Bool.false_ne_true] at q9
        rw [if_neg Bool.false_ne_true]
        exact next I9 q9
      | true =>
        rw [if_pos rfl] at q9
        rw [if_pos rfl]
        refine wpAny_mono (pe.run _ s9 σ8 H9 _ I9 q9) (fun z s10 ⟨yv, H10, I10, r10, acc, hD10, hz10, nx⟩ => ?_) toXe
        exact app_ok (X := blkX X s3 H3 scope ce fp xe) I10 hD10 hz10 r10 fun s11 I11 => next I11 nx
  exact codeAny_compStart_list loop (T.self X.A 0 _ _ _ st4 loop)
/-- as a value -/
theorem pe_lcX {elt tg iter : Expr} {ifs : List Expr} {own : List (Str × Nat)} {pos : Pos} {wi : TI} {gT : TG} {tt : TT} {tX : WX → TE} {E0 : Env} {O : List Env} {L : Addr} {W : WX}
    (hst : X.stack = E0 :: O) (hf0 : E0.frame = some L) (hXf : X.env.frame = some L) (tk : TakesA X W)
    (calm : X.calm = true) (nd : X.N.Nodup) (hi : PI X tg iter wi) (ok : BlkOk X.N X.env.scope scope own)
    (hg : ∀ s H C cl fp xe, PG (blkX X s H scope (compEnvC scope cl C X.env) fp xe) tg gT) (ht : ∀ s H C cl fp xe, PTs (blkX X s H scope (compEnvC scope cl C X.env) fp xe) ifs tt)
    (he : ∀ s H C cl fp xe W', TakesA (blkX X s H scope (compEnvC scope cl C X.env) fp xe) W' → PE (blkX X s H scope (compEnvC scope cl C X.env) fp xe) elt (tX W')) (hs : ∀ x, foldedSetIterable iter X.env x = pure x) :
    PE X (.ListComp elt [⟨tg, iter, ifs, 0⟩] scope pos) fun σ H Q => tLc wi gT tt (tX fun cls _ _ H' => W cls none σ H') (own.map (·.2)) σ H Q := by
  refine ⟨fun pins s σ H Q I h => ?_⟩
  rw [eval_ListComp]
  refine lcX_core hst hf0 hXf tk calm nd I hi ok hg ht he hs h fun D ce s' m H' I' qq hm f => ⟨m, hm, fun h'' sb => ?_⟩
  obtain ⟨f0, f1, _, f3, f4, f5⟩ := f
  exact ⟨.ref D, H', I'.turned (t' := s'.toks) (fun b o hb e => (sb.2 b hb).trans e) f0 f1 f3 f4 f5, rfl, qq⟩
/-- y = [..], y a local, stored ahead of the block's end -/
theorem ps_setLcX {i : Nat} {y : Str} {py spos : Pos} {elt tg iter : Expr} {ifs : List Expr} {own : List (Str × Nat)} {pos : Pos} {wi : TI} {gT : TG} {tt : TT} {tX : WX → TE} {E0 : Env} {O : List Env} {L : Addr} {W : WX}
    (hst : X.stack = E0 :: O) (hf0 : E0.frame = some L) (hXf : X.env.frame = some L) (tk : TakesA X W)
    (calm : X.calm = true) (nd : X.N.Nodup) (hy : X.N[i]? = some y) (hyl : X.env.scope.names.lookup y = some .local) (hsw : swapsWith (.ListComp elt [⟨tg, iter, ifs, 0⟩] scope pos) (some (.Name y py)) spos.line X.env = pure true)
    (hi : PI X tg iter wi) (ok : BlkOk X.N X.env.scope scope own)
    (hg : ∀ s H C cl fp xe, PG (blkX X s H scope (compEnvC scope cl C X.env) fp xe) tg gT) (ht : ∀ s H C cl fp xe, PTs (blkX X s H scope (compEnvC scope cl C X.env) fp xe) ifs tt)
    (he : ∀ s H C cl fp xe W', TakesA (blkX X s H scope (compEnvC scope cl C X.env) fp xe) W' → PE (blkX X s H scope (compEnvC scope cl C X.env) fp xe) elt (tX W')) (hs : ∀ x, foldedSetIterable iter X.env x = pure x) :
    PS X (.Assign [.Name y py] (.ListComp elt [⟨tg, iter, ifs, 0⟩] scope pos) spos) fun D σ H => tLc wi gT tt (tX fun cls _ _ H' => W cls none σ H') (own.map (·.2)) σ H (fun x H1 => gName i x σ H1 D.nx) := by
  refine ⟨fun pins s σ H D I h => ?_⟩
  rw [exec_Assign_Name_used _ _ _ _ hsw]
  refine wpAny_bind (wpAny_standAt (wpAny_bind ?_))
  refine wpAny_bind (thn (lcX_core (pos' := firstIterPos [⟨tg, iter, ifs, 0⟩] pos) (use := some (assign (.Name y py) X.env)) (Qf := fun _ s' => SP X pins D .next s') hst hf0 hXf tk calm nd I hi ok hg ht he hs h fun G ce s' m H' I' qq hm f => ?_) fun _ s' z => wpAny_pure (wpAny_pure z))
  show wpAny _ _ (assign (.Name y py) X.env (.ref G)) _ _ _
  refine wpAny_assign_Name (store_ok2 (v := V.ref G) I' nd hy (.inl hyl) rfl (fun s2 I2 ⟨a, sb, ha⟩ => ?_) (.inr hyl))
  obtain ⟨f0, f1, _, f3, f4, f5⟩ := f
  have ne : ce.locals ≠ a := ha.elim (fun z => by rw [z]; exact f1) fun z e => f4 y a z e.symm
  exact ⟨m, hm.sameBut sb ne, fun h3 sb3 => ⟨_, H', I2.turned (t' := s2.toks) (fun b o hb e => (sb3.2 b hb).trans e) f0 f1 f3 f4 f5, qq⟩⟩
end
end Lw
set_option maxHeartbeats 1000000
/-! LwD: expressions: the evaluator is right. -/
namespace Lw
open PySem PySem.Spec PyProof.Rows L2

/-- room for so many steps down -/
structure Rm (n : Nat) (A : Around) : Prop where
  hd : A.handled = none
  dp : A.depth + n + 8 < recursionLimit
  un : A.units + 4 * n + 300 < cLine
theorem Rm.depth {n : Nat} {A : Around} (r : Rm n A) : A.depth < recursionLimit := by have := r.dp; omega
theorem Rm.mono {n m : Nat} {A : Around} (r : Rm n A) (h : m ≤ n) : Rm m A := ⟨r.hd, by have := r.dp; omega, by have := r.un; omega⟩
theorem Rm.deeper {n : Nat} {A : Around} (r : Rm (n + 1) A) (env : Env) : Rm n (A.deeper env) :=
  ⟨r.hd, by have := r.dp; show A.depth + 1 + n + 8 < _; omega, by have := r.un; show A.units + 3 + 4 * n + 300 < _; omega⟩
theorem Rm.make {n : Nat} {A : Around} (r : Rm (n + 1) A) (C : Addr) (us : List Value) (kw : List (Str × Value)) : Rm n (A.under (.builtin "type.__call__" ⟨.ref C :: us, kw⟩)) :=
  ⟨r.hd, by have := r.dp; rw [make_depth]; omega, by have := r.un; rw [make_units]; omega⟩
/-- what a def promises, by the evaluator -/
def spD (K : PySem.W.Frag) (w0 : World) (ev : Str → Value) (np : Nat) (f : List D → Sto → R D) : Sp := fun vs H Q Ex => vs.length = np ∧ ∃ W S ds, W.w = w0 ∧ WS K W H S ∧ Reps K W H ds vs ∧
  Res K ⟨W, H⟩ (fun c _ H' => Ex (ev c) none H') W H [] [] (f ds S) fun d _ W' H' => ∀ v, Rep K W' H' d v → Q v H'
/-- what a def keeps, where no repr is under way -/
structure FnG (P : Program) (w : World) (K : PySem.W.Frag) (mg : Str → Option Value) (base : Heap) (k : Nat) (f : Addr) (dat : FuncData) (names : List Str) (sp : Sp) : Prop where
  len : ∀ {vs : List V} {H : Hp} {Q : VK} {Ex : XK}, sp vs H Q Ex → vs.length = names.length
  run : ∀ {A : Around} {outer : List Env} {s : Shared} {H : Hp} {args : Args} {us : List Value} {vs : List V} {Q : VK} {Ex : XK}, Rm (2 * k) A → A.guards = some [] → Env0 P w K mg base A outer s H →
    BindsTo s dat args (names.zip us) → Vals vs us → sp vs H Q Ex → codeAny (model P w) A (.call (.ref f) args) (CR (CXA P w) outer P w H s Q Ex) s
/-- what a def keeps that tells the class of the exception that is handled: D its class, wd the word -/
structure FnC (P : Program) (w : World) (K : PySem.W.Frag) (mg : Str → Option Value) (base : Heap) (f : Addr) (dat : FuncData) (x : Str) (D : Addr) (wd : Lw.D) : Prop where
  run : ∀ {A : Around} {outer : List Env} {s : Shared} {H : Hp} {args : Args} {p q : Addr × Obj} {W : Wd} {S : Sto} {Q : VK} {Ex : XK}, A.depth < recursionLimit → A.units + 200 < cLine → L2H.PinOk outer H s p → L2H.PinOk outer H s q → PX.Zown (.ref D) none q.1 p.2 → EmptyT q.2 →
    Env0 P w K mg base A outer s H → BindsTo s dat args [(x, .ref p.1)] → WS K W H S → Fin K W H S wd Q → codeAny (model P w) A (.call (.ref f) args) (CR (CXA P w) outer P w H s Q Ex) s
section
variable {X : Cx} {k : Nat} {f : Addr} {dat : FuncData} {names : List Str} {sp : Sp} {Ex : L2.St → XK} {x : Str} {p pos : Pos} {e : Expr} {es : List Expr} {t : TA}
/-- a call of such a def from a body -/
theorem pe_callG (F : FnG X.prog X.w X.K X.mg X.base k f dat names sp) (room : Rm (2 * k) X.A) (gd : X.A.guards = some []) (gl : Gl X x) (at_ : X.mg x = some (.ref f)) (kp : PySem.W.keepIn X.K (.ref f) = true) (bd : Binds X.K dat names [])
    (out : ∀ σ, PassesAt (CXA X.prog X.w) X σ (Ex σ)) (args : PA X (e :: es) t) (nd : (x == ("__debug__" : Str)) = false) (se : starEach (e :: es) X.env = (false, eval e X.env) :: starEach es X.env)
    (pl : (backTo pos (starEach es X.env)).any (·.1) = false) : PE X (.Call (.Name x p) (e :: es) [] pos) (tCallS sp Ex t) := by
  constructor
  intro pins s σ H Q I h
  refine wpAny_Call_Name_kw (ld_glob I gl at_ ?_ nd)
  refine PySem.W.callWith_K (h₀ := X.base) I.ok.mod.kin kp ?_ se pl
  refine thn (args.run pos pins s σ H _ I h) ?_
  rintro us s1 ⟨vs, H1, I1, r, q⟩
  refine ⟨I1.kIn, ?_⟩
  have b := bd s1 us I1.kIn (by rw [List.append_nil, ← r.length]; exact F.len q)
  rw [List.append_nil] at b
  refine wpAny_call (codeAny_mono (F.run (args := ⟨us, []⟩) room gd I1.env0 b r q) ?_)
  rintro (err | fl) s' hq
  · exact out σ pins H1 s1 err s' I1 hq
  · cases fl with
    | ret u => exact I1.after hq
    | _ => exact hq.elim
end
/-- the wish about errors -/
def wxOf (ev : Str → Value) (Xw : Str → L2.St → Hp → Prop) : WX := fun cls d σ H => ∃ c, cls = ev c ∧ d = none ∧ Xw c σ H

/-- what a body's context gives, whatever its block -/
structure Cok (X : Cx) (g : G) (C : Call) (ev : Str → Value) (E : Ent) (N : List Str) (sc : Scope) (Xw : Str → L2.St → Hp → Prop) (k : Nat) : Prop where
  hN : X.N = N
  nd : N.Nodup
  hsc : X.env.scope = sc
  calm : X.calm = true
  room : Rm (2 * k + 1) X.A
  gd : X.A.guards = some []
  tk : TakesA X (wxOf ev Xw)
  con : ∀ x d, g.con x = some d → ∃ u v, X.mg x = some u ∧ RelV v u ∧ ∀ W H, Rep X.K W H d v
  fns : ∀ x fd, g.fn x = some fd → ∃ f fdat, X.mg x = some (.ref f) ∧ PySem.W.keepIn X.K (.ref f) = true ∧ Binds X.K fdat fd.ps [] ∧ FnG X.prog X.w X.K X.mg X.base k f fdat fd.ps (spD X.K X.w ev fd.ps.length (C x))
  bis : ∀ x, g.bi x = true → X.mg x = none
  ew : E.W.w = X.w
  stk : ∃ E0 O L, X.stack = E0 :: O ∧ E0.frame = some L ∧ X.env.frame = some L
  ar : ∀ x fd ds S, g.fn x = some fd → C x ds S ≠ .bad → ds.length = fd.ps.length
  fld : ∀ x f, g.fld x f = true → Cls X.K (He.ga X.K x) ∧ NoAttr X.K (He.ga X.K x) f
  mts : ∀ x m q, g.mt x m = some q → ∃ fd f fdat, g.mf q = some fd ∧ Cls X.K (He.ga X.K x) ∧ Meth X.K (He.ga X.K x) m f ∧ Binds X.K fdat fd.ps [] ∧ FnG X.prog X.w X.K X.mg X.base k f fdat fd.ps (spD X.K X.w ev fd.ps.length (C q)) ∧
    ∀ ds S, C q ds S ≠ .bad → ds.length = fd.ps.length
  mkr : ∀ x, g.cl x = true → X.mg x = some (.ref (He.ga X.K x)) ∧ PySem.W.makesIn X.K (He.ga X.K x) = true ∧ PySem.W.keepIn X.K (.ref (He.ga X.K x)) = true

section
variable {X : Cx} {g : G} {C : Call} {ev : Str → Value} {E : Ent} {N : List Str} {sc : Scope} {Xw : Str → L2.St → Hp → Prop} {k : Nat}
theorem Rel.w {W : Wd} {H : Hp} {ρ : Ev} {σ : L2.St} {S : Sto} {K : PySem.W.Frag} (r : Rel K E W H ρ σ S) (h : E.W.w = X.w) : W.w = X.w := r.le.w.trans h
theorem Cok.hu (c : Cok X g C ev E N sc Xw k) : X.A.units + 65 < cLine := by have := c.room.un; omega

theorem no_bad {t : TE} {e : Expr} (h : ∀ σ H Q, ¬ t σ H Q) : PE X e t := ⟨fun _ _ σ H Q _ q => absurd q (h σ H Q)⟩
theorem no_badA {t : TA} {e : List Expr} (h : ∀ σ H Q, ¬ t σ H Q) : PA X e t := ⟨fun _ _ _ σ H Q _ q => absurd q (h σ H Q)⟩
theorem no_badT {t : TT} {e : Expr} (h : ∀ σ H Q, ¬ t σ H Q) : PT X e t := ⟨fun _ _ σ H Q _ q => absurd q (h σ H Q)⟩
theorem no_badW {t : TT} {e : Expr} (h : ∀ σ H Q, ¬ t σ H Q) : PW X e t := ⟨fun _ _ _ σ H Q _ q => absurd q (h σ H Q)⟩
theorem no_badI {t : TI} {tg e : Expr} (h : ∀ σ H Q, ¬ t σ H Q) : PI X tg e t := ⟨fun _ _ σ H Q _ q => absurd q (h σ H Q)⟩
theorem nE : ∀ σ H Q, ¬ tE X.K E Xw (fun _ _ => .bad) σ H Q := fun σ H Q ⟨_, _, _, _, h⟩ => h
theorem nT : ∀ σ H Q, ¬ tT X.K E Xw (fun _ _ => .bad) σ H Q := fun σ H Q ⟨_, _, _, _, h⟩ => h
theorem nA : ∀ σ H Q, ¬ tA X.K E Xw (fun _ _ => .bad) σ H Q := fun σ H Q ⟨_, _, _, _, h⟩ => h
theorem nTs : ∀ σ H Q, ¬ tTs X.K E Xw (fun _ _ => .bad) σ H Q := fun σ H Q ⟨_, _, _, _, h⟩ => h
theorem nB : ∀ σ H Q, ¬ tBl X.K E Xw (fun _ _ => .bad) σ H Q := fun σ H Q ⟨_, _, _, _, h⟩ => h
theorem nI : ∀ σ H Q, ¬ tI X.K E Xw (fun _ _ => .bad) σ H Q := fun σ H Q ⟨_, _, _, _, h⟩ => h

/-! ### one, two parts -/
variable {fa fb : Ev → Sto → R D}
theorem two {gg : D → D → Sto → R D} {σ : L2.St} {H : Hp} {Q : VK} {r : R2} (h : tE X.K E Xw (fun ρ S => (fa ρ S).bind fun x S1 => (fb ρ S1).bind fun y S2 => gg x y S2) σ H Q)
    (kk : ∀ ρ S W2 H2 x y v u, Rel X.K E W2 H2 ρ σ S → RepT X.K W2 H2 x v → RepT X.K W2 H2 y u → Res X.K E Xw W2 H2 ρ σ (gg x y S) (fun d _ W' H' => ∀ v, Rep X.K W' H' d v → Q v H') → r v u H2 Q) : tOp r (tT X.K E Xw fa) (tT X.K E Xw fb) σ H Q := by
  obtain ⟨W, ρ, S, rel, res⟩ := h
  refine ⟨W, ρ, S, rel, (Res.bind res).mono fun x S1 W1 H1 l1 w1 p v rv => ?_⟩
  refine ⟨W1, ρ, S1, rel.step l1 w1, (Res.bind p).mono fun y S2 W2 H2 l2 w2 q u ru => ?_⟩
  exact kk ρ S2 W2 H2 x y v u ((rel.step l1 w1).step l2 w2) (rv.le w1 l2) ru q
theorem twoE {gg : D → D → Sto → R D} {σ : L2.St} {H : Hp} {Q : VK} {r : R2} (h : tE X.K E Xw (fun ρ S => (fa ρ S).bind fun x S1 => (fb ρ S1).bind fun y S2 => gg x y S2) σ H Q)
    (kk : ∀ ρ S W2 H2 x y v u, Rel X.K E W2 H2 ρ σ S → RepT X.K W2 H2 x v → Rep X.K W2 H2 y u → Res X.K E Xw W2 H2 ρ σ (gg x y S) (fun d _ W' H' => ∀ v, Rep X.K W' H' d v → Q v H') → r v u H2 Q) : tOp r (tT X.K E Xw fa) (tE X.K E Xw fb) σ H Q := by
  obtain ⟨W, ρ, S, rel, res⟩ := h
  refine ⟨W, ρ, S, rel, (Res.bind res).mono fun x S1 W1 H1 l1 w1 p v rv => ?_⟩
  refine ⟨W1, ρ, S1, rel.step l1 w1, (Res.bind p).mono fun y S2 W2 H2 l2 w2 q u ru => ?_⟩
  exact kk ρ S2 W2 H2 x y v u ((rel.step l1 w1).step l2 w2) (rv.le w1 l2) ru q

theorem den_bin {a b : Expr} {op : Operator} {pos : Pos} (ha : PE X a (tT X.K E Xw fa)) (hb : PE X b (tT X.K E Xw fb)) :
    PE X (.BinOp a op b pos) (tE X.K E Xw fun ρ S => (fa ρ S).bind fun x S1 => (fb ρ S1).bind fun y S2 => R.opt (binD op (view S2 x) (view S2 y)) S2) := by
  refine (pe_op (op_bin op) ha hb).wk fun σ H Q h => two h fun ρ S W2 H2 x y v u rel rx ry res => ?_
  obtain ⟨d, e, f⟩ := res.opt
  exact ⟨W2, S, _, _, d, rel.ws, rx.see rel.ws, ry.see rel.ws, e, fun W' H' l w v r => f W' H' l w v r⟩
theorem den_cmp {a b : Expr} {op : CmpOp} {pos : Pos} (hm : behindInMarks op b = false) (hw : E.W.w = X.w) (hu : X.A.units + 65 < cLine) (ha : PE X a (tT X.K E Xw fa)) (hb : PE X b (tT X.K E Xw fb)) :
    PE X (.Compare a [op] [b] pos) (tE X.K E Xw fun ρ S => (fa ρ S).bind fun x S1 => (fb ρ S1).bind fun y S2 => R.opt ((cmpD op (view S2 x) (view S2 y)).map D.bl) S2) := by
  refine (pe_cmpR (op_cmp hu op) ha hb hm).wk fun σ H Q h => two h fun ρ S W2 H2 x y v u rel rx ry res => ?_
  obtain ⟨d, e, f⟩ := res.opt
  obtain ⟨c, e1, rfl⟩ := Option.map_eq_some_iff.mp e
  exact ⟨W2, S, _, _, c, rel.w hw, rel.ws, rx.see rel.ws, ry.see rel.ws, e1, f W2 H2 rel.ws.refl rel.ws _ (.bl c)⟩
theorem den_cmpT {a b : Expr} {op : CmpOp} {pos : Pos} (hm : behindInMarks op b = false) (hw : E.W.w = X.w) (hu : X.A.units + 65 < cLine) (ha : PE X a (tT X.K E Xw fa)) (hb : PE X b (tT X.K E Xw fb)) :
    PT X (.Compare a [op] [b] pos) (tBl X.K E Xw fun ρ S => ((fa ρ S).bind fun x S1 => (fb ρ S1).bind fun y S2 => R.opt ((cmpD op (view S2 x) (view S2 y)).map D.bl) S2).bind fun d S1 => (match d with
      | .bl b => .ok b S1
      | _ => .bad)) := by
  refine (pt_cmpR (op_cmp hu op) ha hb hm).wk fun σ H Q h => ?_
  obtain ⟨W, ρ, S, rel, res⟩ := h
  refine two (gg := fun x y S2 => R.opt ((cmpD op (view S2 x) (view S2 y)).map D.bl) S2) (Q := fun x H' => ∃ k, x = V.bl k ∧ Q k H') ⟨W, ρ, S, rel, (Res.bind res).mono fun d S1 W1 H1 l1 w1 p v rv => ?_⟩ fun ρ S W2 H2 x y v u rel rx ry res => ?_
  · cases rv with
    | bl b => exact ⟨b, rfl, p W1 H1 w1.refl w1⟩
    | _ => exact False.elim p
  · obtain ⟨d, e, f⟩ := res.opt
    obtain ⟨c, e1, rfl⟩ := Option.map_eq_some_iff.mp e
    exact ⟨W2, S, _, _, c, rel.w hw, rel.ws, rx.see rel.ws, ry.see rel.ws, e1, f W2 H2 rel.ws.refl rel.ws _ (.bl c)⟩
/-- a chain of two -/
theorem chain_red (hw : E.W.w = X.w) {fc : Ev → Sto → R D} {op op' : CmpOp} {σ : L2.St} {H : Hp} {Q : VK}
    (h : tE X.K E Xw (fun ρ S => (fa ρ S).bind fun x S1 => (fb ρ S1).bind fun y S2 => (R.opt (cmpD op (view S2 x) (view S2 y)) S2).bind fun t S3 =>
          if t then (fc ρ S3).bind fun z S4 => R.opt ((cmpD op' (view S4 y) (view S4 z)).map D.bl) S4 else .ok (.bl false) S3) σ H Q) :
    tChain (rCmp X.K X.w op) (rCmp X.K X.w op') (tT X.K E Xw fa) (tT X.K E Xw fb) (tT X.K E Xw fc) σ H Q := by
  obtain ⟨W, ρ, S, rel, res⟩ := h
  refine ⟨W, ρ, S, rel, (Res.bind res).mono fun x S1 W1 H1 l1 w1 p v rv => ?_⟩
  refine ⟨W1, ρ, S1, rel.step l1 w1, (Res.bind p).mono fun y S2 W2 H2 l2 w2 q u ru => ?_⟩
  have rel2 := (rel.step l1 w1).step l2 w2
  obtain ⟨t, e, f⟩ := Res.opt (Res.bind q)
  refine ⟨W2, S2, _, _, t, rel2.w hw, w2, (rv.le w1 l2).see w2, ru.see w2, e, t, rfl, ?_⟩
  have f2 := f W2 H2 w2.refl w2
  cases t with
  | false =>
    rw [if_neg Bool.false_ne_true] at f2
    exact f2 W2 H2 w2.refl w2 _ (.bl false)
  | true =>
    rw [if_pos rfl]
    rw [if_pos rfl] at f2
    refine ⟨W2, ρ, S2, rel2, (Res.bind f2).mono fun z S4 W4 H4 l4 w4 p4 z' rz => ?_⟩
    obtain ⟨d, e4, f4⟩ := p4.opt
    obtain ⟨c, e5, rfl⟩ := Option.map_eq_some_iff.mp e4
    exact ⟨W4, S4, _, _, c, l4.w.trans (rel2.w hw), w4, (ru.le w2 l4).see w4, rz.see w4, e5, f4 W4 H4 w4.refl w4 _ (.bl c)⟩
theorem den_chain {a b c : Expr} {fc : Ev → Sto → R D} {op op' : CmpOp} {pos : Pos} (hm : lastMarks [op, op'] [b, c] = false) (hw : E.W.w = X.w) (hu : X.A.units + 65 < cLine) (ha : PE X a (tT X.K E Xw fa)) (hb : PE X b (tT X.K E Xw fb)) (hc : PE X c (tT X.K E Xw fc)) :
    PE X (.Compare a [op, op'] [b, c] pos) (tE X.K E Xw fun ρ S => (fa ρ S).bind fun x S1 => (fb ρ S1).bind fun y S2 => (R.opt (cmpD op (view S2 x) (view S2 y)) S2).bind fun t S3 =>
          if t then (fc ρ S3).bind fun z S4 => R.opt ((cmpD op' (view S4 y) (view S4 z)).map D.bl) S4 else .ok (.bl false) S3) :=
  (pe_chain (op_cmp hu op) (op_cmp hu op') ha hb hc hm).wk fun σ H Q h => chain_red hw h
theorem den_chainT {a b c : Expr} {fc : Ev → Sto → R D} {op op' : CmpOp} {pos : Pos} (hm : lastMarks [op, op'] [b, c] = false) (hw : E.W.w = X.w) (hu : X.A.units + 65 < cLine) (ha : PE X a (tT X.K E Xw fa)) (hb : PE X b (tT X.K E Xw fb)) (hc : PE X c (tT X.K E Xw fc)) :
    PT X (.Compare a [op, op'] [b, c] pos) (tBl X.K E Xw fun ρ S => ((fa ρ S).bind fun x S1 => (fb ρ S1).bind fun y S2 => (R.opt (cmpD op (view S2 x) (view S2 y)) S2).bind fun t S3 =>
          if t then (fc ρ S3).bind fun z S4 => R.opt ((cmpD op' (view S4 y) (view S4 z)).map D.bl) S4 else .ok (.bl false) S3).bind fun d S1 => (match d with
      | .bl b => .ok b S1
      | _ => .bad)) := by
  refine (pt_chain (op_cmp hu op) (op_cmp hu op') ha hb hc hm).wk fun σ H Q h => ?_
  obtain ⟨W, ρ, S, rel, res⟩ := h
  refine chain_red hw (Q := fun x H' => ∃ k, x = V.bl k ∧ Q k H') ⟨W, ρ, S, rel, (Res.bind res).mono fun d S1 W1 H1 l1 w1 p v rv => ?_⟩
  cases rv with
  | bl b => exact ⟨b, rfl, p W1 H1 w1.refl w1⟩
  | _ => exact False.elim p
theorem den_item {a b : Expr} {pos : Pos} (hw : E.W.w = X.w) (hu : X.A.units + 65 < cLine) (hs : PlainIx b) (ha : PE X a (tT X.K E Xw fa)) (hb : PE X b (tE X.K E Xw fb)) :
    PE X (.Subscript a b pos) (tE X.K E Xw fun ρ S => (fa ρ S).bind fun x S1 => (fb ρ S1).bind fun y S2 => R.opt (itemD (view S2 x) y) S2) := by
  refine (pe_ix (ix_item hu) ha hb hs).wk fun σ H Q h => twoE h fun ρ S W2 H2 x y v u rel rx ry res => ?_
  obtain ⟨d, e, f⟩ := res.opt
  have ry' : See X.K W2 H2 y u := by
    have ry2 := (show RepT X.K W2 H2 y u from .inl ry).see rel.ws
    cases y with
    | ref i => unfold itemD at e; split at e <;> first | cases e | (rename_i h1 h2; cases h2)
    | _ => exact ry2
  exact ⟨W2, S, _, _, d, rel.w hw, rel.ws, rx.see rel.ws, ry', e, fun W' H' l w v r => f W' H' l w v r⟩

/-! ### constants, names -/
theorem den_c {e : Expr} {v : V} {d : D} (h : PE X e (tC v)) (r : ∀ W H, Rep X.K W H d v) : PE X e (tE X.K E Xw fun _ S => .ok d S) :=
  h.wk fun σ H Q ⟨W, ρ, S, rel, res⟩ => res W H rel.ws.refl rel.ws v (r W H)
theorem ix_ok {x : Str} (h : ixOf N x < N.length) : N[ixOf N x]? = some x := by
  have q := List.findIdx_getElem (p := (· == x)) (w := h)
  rw [List.getElem?_eq_getElem h]
  exact congrArg some (beq_iff_eq.mp q)
theorem getSl_lt {ρ : Ev} {i : Nat} {s : Sl} (h : getSl ρ i = s) (ne : s ≠ .un) : i < ρ.length := by
  unfold getSl at h
  by_cases hi : i < ρ.length
  · exact hi
  · rw [List.getD_eq_getElem?_getD, List.getElem?_eq_none (Nat.le_of_not_lt hi)] at h
    exact absurd h.symm ne
theorem visOk {x : Str} (h : visB sc x = true) (e : X.env.scope = sc) : Vis X.env.scope x := by
  rw [e]
  unfold visB kindB at h
  unfold Vis
  split at h
  · exact .inl (by assumption)
  · exact .inr (.inl (by assumption))
  · exact .inr (.inr (by assumption))
  · cases h
theorem glOk {x : Str} (h : glB sc x = true) (e : X.env.scope = sc) : Gl X x := by
  unfold glB kindB at h
  show X.env.scope.names.lookup x = some .globalImplicit
  rw [e]
  split at h
  · assumption
  · cases h
theorem plain3 {x : Str} (h : plainName x = true) : (x == ("__debug__" : Str)) = false ∧ (x == ("__classdict__" : Str)) = false ∧ x ≠ "__name__" := by
  unfold plainName at h
  simp only [Bool.and_eq_true, Bool.not_eq_true'] at h
  exact ⟨h.1.1, h.1.2, fun z => by rw [z] at h; simp at h⟩
theorem slot_len {σ : L2.St} {H : Hp} {ρ : Ev} {S : Sto} {W : Wd} {pins : List (Addr × Obj)} {s : Shared} (c : Cok X g C ev E N sc Xw k) (I : Inv X pins σ H s) (r : Rel X.K E W H ρ σ S) : ρ.length = N.length := by
  rw [r.len, I.len, c.hN]
/-- a slot, by the place -/
theorem pe_slot {x : Str} {pos : Pos} (c : Cok X g C ev E N sc Xw k) (hp : plainName x = true) (hv : visB sc x = true) {t : TE}
    (h : ∀ pins s σ H Q, Inv X pins σ H s → t σ H Q → ixOf N x < N.length ∧ tVar (ixOf N x) σ H Q) : PE X (.Name x pos) t := by
  obtain ⟨h1, h2, _⟩ := plain3 hp
  refine ⟨fun pins s σ H Q I q => ?_⟩
  obtain ⟨hl, q2⟩ := h pins s σ H Q I q
  exact (pe_var (i := ixOf N x) (by rw [c.hN]; exact ix_ok hl) (visOk hv c.hsc) h1 h2).run pins s σ H Q I q2
theorem den_name {x : Str} {pos : Pos} (c : Cok X g C ev E N sc Xw k) (hp : plainName x = true) (hv : visB sc x = true) : PE X (.Name x pos) (tE X.K E Xw fun ρ S => match getSl ρ (ixOf N x) with
          | .val d => .ok d S
          | _ => .bad) := by
  refine pe_slot c hp hv fun pins s σ H Q I ⟨W, ρ, S, rel, res⟩ => ?_
  have hl := slot_len c I rel
  dsimp only at res
  cases e : getSl ρ (ixOf N x) with
  | val d =>
    rw [e] at res
    refine ⟨by rw [← hl]; exact getSl_lt e (fun z => by cases z), ?_⟩
    obtain ⟨v, h1, h2⟩ := rel.val _ _ e
    exact ⟨v, h1, res W H rel.ws.refl rel.ws v h2⟩
  | un => rw [e] at res; exact False.elim res
  | own ds => rw [e] at res; exact False.elim res
theorem den_nameT {x : Str} {pos : Pos} (c : Cok X g C ev E N sc Xw k) (hp : plainName x = true) (hv : visB sc x = true) : PE X (.Name x pos) (tT X.K E Xw fun ρ S => match getSl ρ (ixOf N x) with
          | .val d => .ok d S
          | .own ds => .ok (.lst ds) S
          | _ => .bad) := by
  refine pe_slot c hp hv fun pins s σ H Q I ⟨W, ρ, S, rel, res⟩ => ?_
  have hl := slot_len c I rel
  dsimp only at res
  cases e : getSl ρ (ixOf N x) with
  | val d =>
    rw [e] at res
    refine ⟨by rw [← hl]; exact getSl_lt e (fun z => by cases z), ?_⟩
    obtain ⟨v, h1, h2⟩ := rel.val _ _ e
    exact ⟨v, h1, res W H rel.ws.refl rel.ws v (.inl h2)⟩
  | un => rw [e] at res; exact False.elim res
  | own ds =>
    rw [e] at res
    refine ⟨by rw [← hl]; exact getSl_lt e (fun z => by cases z), ?_⟩
    obtain ⟨a, h1, vs, h2, h3, _, h5, _⟩ := rel.own _ _ e
    exact ⟨.ref a, h1, res W H rel.ws.refl rel.ws _ (.inr ⟨ds, a, vs, rfl, rfl, h2, h3, h5⟩)⟩
theorem den_glob {x : Str} {pos : Pos} (c : Cok X g C ev E N sc Xw k) (hp : plainName x = true) (hg : glB sc x = true) : PE X (.Name x pos) (tE X.K E Xw fun _ S => R.opt (g.con x) S) := by
  obtain ⟨h1, _, _⟩ := plain3 hp
  cases e : g.con x with
  | none => exact no_bad nE
  | some d =>
    obtain ⟨u, v, hm, r, hr⟩ := c.con x d e
    exact den_c (pe_glob (glOk hg c.hsc) hm r h1) hr

/-! ### not, -, and, or, if -/
theorem den_T {e : Expr} (h : PE X e (tE X.K E Xw fa)) : PE X e (tT X.K E Xw fa) := h.wk fun σ H Q ⟨W, ρ, S, rel, res⟩ => ⟨W, ρ, S, rel, res.mono fun d S1 W1 H1 l w p v r => p v (.inl r)⟩
theorem den_not {a : Expr} {pos : Pos} (ha : PE X a (tT X.K E Xw fa)) : PE X (.UnaryOp .Not a pos) (tE X.K E Xw fun ρ S => (fa ρ S).bind fun x S1 => R.opt ((truD (view S1 x)).map fun b => D.bl (!b)) S1) := by
  refine ⟨fun pins s σ H Q I ⟨W, ρ, S, rel, res⟩ => ?_⟩
  refine UnaryOp_ (thn (ha.run pins s σ H (fun x H1 => ∃ k, TruV X.K x H1 k ∧ Q (.bl (!k)) H1) I ⟨W, ρ, S, rel, (Res.bind res).mono fun d S1 W1 H1 l1 w1 p v rv => ?_⟩) fun v s1 ⟨x, H1, I1, r1, kk, hk, q⟩ => ?_)
  · obtain ⟨d', e, f⟩ := p.opt
    obtain ⟨b, e1, rfl⟩ := Option.map_eq_some_iff.mp e
    exact ⟨b, (rv.see w1).tru e1, f W1 H1 w1.refl w1 _ (.bl _)⟩
  · exact not_of (thn (tru_ok pins s1 σ H1 x v (fun b H' => Q (.bl (!b)) H') I1 r1 ⟨kk, hk, q⟩) fun b s2 ⟨H2, I2, q2⟩ => ⟨.bl (!b), H2, I2, rfl, q2⟩)
theorem den_neg {a : Expr} {pos : Pos} (ha : PE X a (tT X.K E Xw fa)) : PE X (.UnaryOp .USub a pos) (tE X.K E Xw fun ρ S => (fa ρ S).bind fun x S1 => (match x with
        | .int i => .ok (.int (-i)) S1
        | _ => .bad)) := by
  refine (pe_un un_neg ha).wk fun σ H Q ⟨W, ρ, S, rel, res⟩ => ⟨W, ρ, S, rel, (Res.bind res).mono fun d S1 W1 H1 l1 w1 p v rv => ?_⟩
  cases d with
  | int i =>
    rcases rv with rv | ⟨_, _, _, e, _⟩
    · cases rv
      exact ⟨i, rfl, p W1 H1 w1.refl w1 _ (.int _)⟩
    · cases e
  | _ => exact False.elim p
theorem den_if {c a b : Expr} {fc : Ev → Sto → R Bool} {pos : Pos} (hc : PT X c (tBl X.K E Xw fc)) (ha : PE X a (tE X.K E Xw fa)) (hb : PE X b (tE X.K E Xw fb)) :
    PE X (.IfExp c a b pos) (tE X.K E Xw fun ρ S => (fc ρ S).bind fun t S1 => if t then fa ρ S1 else fb ρ S1) := by
  refine (pe_ifExp hc ha hb).wk fun σ H Q ⟨W, ρ, S, rel, res⟩ => ⟨W, ρ, S, rel, (Res.bind res).mono fun t S1 W1 H1 l1 w1 p => ?_⟩
  cases t with
  | true => rw [if_pos rfl]; exact ⟨W1, ρ, S1, rel.step l1 w1, p⟩
  | false => rw [if_neg Bool.false_ne_true]; exact ⟨W1, ρ, S1, rel.step l1 w1, p⟩
theorem den_and {a b : Expr} {rest : List Expr} {pos : Pos} (ha : PE X a (tE X.K E Xw fa)) (hb : PE X (.BoolOp .And (b :: rest) pos) (tE X.K E Xw fb)) :
    PE X (.BoolOp .And (a :: b :: rest) pos) (tE X.K E Xw fun ρ S => (fa ρ S).bind fun x S1 => (match x with
      | .bl b => if b then fb ρ S1 else .ok (.bl false) S1
      | _ => .bad)) := by
  refine (pe_and ha hb).wk fun σ H Q ⟨W, ρ, S, rel, res⟩ => ⟨W, ρ, S, rel, (Res.bind res).mono fun d S1 W1 H1 l1 w1 p v rv => ?_⟩
  cases rv with
  | bl b =>
    refine ⟨b, rfl, ?_⟩
    cases b with
    | true => rw [if_pos rfl]; exact ⟨W1, ρ, S1, rel.step l1 w1, p⟩
    | false => rw [if_neg Bool.false_ne_true]; exact p W1 H1 w1.refl w1 _ (.bl _)
  | _ => exact False.elim p
theorem den_or {a b : Expr} {rest : List Expr} {pos : Pos} (ha : PE X a (tE X.K E Xw fa)) (hb : PE X (.BoolOp .Or (b :: rest) pos) (tE X.K E Xw fb)) :
    PE X (.BoolOp .Or (a :: b :: rest) pos) (tE X.K E Xw fun ρ S => (fa ρ S).bind fun x S1 => (match x with
      | .bl b => if b then .ok (.bl true) S1 else fb ρ S1
      | _ => .bad)) := by
  refine (pe_or ha hb).wk fun σ H Q ⟨W, ρ, S, rel, res⟩ => ⟨W, ρ, S, rel, (Res.bind res).mono fun d S1 W1 H1 l1 w1 p v rv => ?_⟩
  cases rv with
  | bl b =>
    refine ⟨b, rfl, ?_⟩
    cases b with
    | true => rw [if_pos rfl]; exact p W1 H1 w1.refl w1 _ (.bl _)
    | false => rw [if_neg Bool.false_ne_true]; exact ⟨W1, ρ, S1, rel.step l1 w1, p⟩
  | _ => exact False.elim p
/-- an expression as a test -/
theorem den_tru {e : Expr} (he : ∀ whole, isTrue e X.env whole = (do let v ← whole; standAt e.pos; holding [v] (truthy v))) (h : PE X e (tT X.K E Xw fa)) : PT X e (tBl X.K E Xw fun ρ S => (fa ρ S).bind fun d S1 => R.opt (truD (view S1 d)) S1) := by
  refine (pt_truth h he).wk fun σ H Q ⟨W, ρ, S, rel, res⟩ => ⟨W, ρ, S, rel, (Res.bind res).mono fun d S1 W1 H1 l1 w1 p v rv => ?_⟩
  obtain ⟨b, e1, f⟩ := p.opt
  exact ⟨b, (rv.see w1).tru e1, f W1 H1 w1.refl w1⟩
theorem den_notT {a : Expr} {fc : Ev → Sto → R Bool} {pos : Pos} (h : PT X a (tBl X.K E Xw fc)) : PT X (.UnaryOp .Not a pos) (tBl X.K E Xw fun ρ S => (fc ρ S).bind fun b S1 => .ok (!b) S1) :=
  (pt_not h).wk fun σ H Q ⟨W, ρ, S, rel, res⟩ => ⟨W, ρ, S, rel, (Res.bind res).mono fun b S1 W1 H1 l1 w1 p => p W1 H1 w1.refl w1⟩
theorem den_wand {a b : Expr} {rest : List Expr} {fc fd : Ev → Sto → R Bool} {pos : Pos} (ha : PT X a (tBl X.K E Xw fc)) (hb : PW X (.BoolOp .And (b :: rest) pos) (tBl X.K E Xw fd)) :
    PW X (.BoolOp .And (a :: b :: rest) pos) (tBl X.K E Xw fun ρ S => (fc ρ S).bind fun b S1 => if b then fd ρ S1 else .ok false S1) := by
  refine (pw_and ha hb).wk fun σ H Q ⟨W, ρ, S, rel, res⟩ => ⟨W, ρ, S, rel, (Res.bind res).mono fun b S1 W1 H1 l1 w1 p => ?_⟩
  cases b with
  | true => rw [if_pos rfl]; exact ⟨W1, ρ, S1, rel.step l1 w1, p⟩
  | false => rw [if_neg Bool.false_ne_true]; exact p W1 H1 w1.refl w1
theorem den_wor {a b : Expr} {rest : List Expr} {fc fd : Ev → Sto → R Bool} {pos : Pos} (ha : PT X a (tBl X.K E Xw fc)) (hb : PW X (.BoolOp .Or (b :: rest) pos) (tBl X.K E Xw fd)) :
    PW X (.BoolOp .Or (a :: b :: rest) pos) (tBl X.K E Xw fun ρ S => (fc ρ S).bind fun b S1 => if b then .ok true S1 else fd ρ S1) := by
  refine (pw_or ha hb).wk fun σ H Q ⟨W, ρ, S, rel, res⟩ => ⟨W, ρ, S, rel, (Res.bind res).mono fun b S1 W1 H1 l1 w1 p => ?_⟩
  cases b with
  | true => rw [if_pos rfl]; exact p W1 H1 w1.refl w1
  | false => rw [if_neg Bool.false_ne_true]; exact ⟨W1, ρ, S1, rel.step l1 w1, p⟩

/-! ### lists of arguments -/
theorem den_anil : PA X [] (tA X.K E Xw fun _ S => .ok [] S) := pa_nil.wk fun σ H Q ⟨W, ρ, S, rel, res⟩ => res W H rel.ws.refl rel.ws [] .nil
theorem den_tsnil : PA X [] (tTs X.K E Xw fun _ S => .ok [] S) := pa_nil.wk fun σ H Q ⟨W, ρ, S, rel, res⟩ => res W H rel.ws.refl rel.ws [] .nil
theorem star_ok {e : Expr} {es : List Expr} {env : Env} (h : notStar e = true) : starEach (e :: es) env = (false, eval e env) :: starEach es env := by
  cases e <;> first | rfl | cases h
theorem star_no {e : Expr} (h : notStar e = false) : ∃ a p, e = .Starred a p := by
  cases e <;> first | exact ⟨_, _, rfl⟩ | cases h
theorem den_acons {e : Expr} {es : List Expr} {fs : Ev → Sto → R (List D)} (hn : notStar e = true) (he : PE X e (tE X.K E Xw fa)) (hs : PA X es (tA X.K E Xw fs)) :
    PA X (e :: es) (tA X.K E Xw fun ρ S => (fa ρ S).bind fun d S1 => (fs ρ S1).bind fun ds S2 => .ok (d :: ds) S2) := by
  refine (pa_cons he hs (star_ok hn)).wk fun σ H Q ⟨W, ρ, S, rel, res⟩ => ⟨W, ρ, S, rel, (Res.bind res).mono fun d S1 W1 H1 l1 w1 p v rv => ?_⟩
  refine ⟨W1, ρ, S1, rel.step l1 w1, (Res.bind p).mono fun ds S2 W2 H2 l2 w2 q vs rvs => ?_⟩
  exact q W2 H2 w2.refl w2 _ (.cons (rv.pre (l2.pre w1)) rvs)
theorem den_tscons {e : Expr} {es : List Expr} {fs : Ev → Sto → R (List D)} (hn : notStar e = true) (he : PE X e (tT X.K E Xw fa)) (hs : PA X es (tTs X.K E Xw fs)) :
    PA X (e :: es) (tTs X.K E Xw fun ρ S => (fa ρ S).bind fun d S1 => (fs ρ S1).bind fun ds S2 => .ok (d :: ds) S2) := by
  refine (pa_cons he hs (star_ok hn)).wk fun σ H Q ⟨W, ρ, S, rel, res⟩ => ⟨W, ρ, S, rel, (Res.bind res).mono fun d S1 W1 H1 l1 w1 p v rv => ?_⟩
  refine ⟨W1, ρ, S1, rel.step l1 w1, (Res.bind p).mono fun ds S2 W2 H2 l2 w2 q vs rvs => ?_⟩
  exact q W2 H2 w2.refl w2 _ (.cons (rv.le w1 l2) rvs)
theorem den_tup {es : List Expr} {fs : Ev → Sto → R (List D)} {kk : Nat} {pos : Pos} (h : PA X es (tA X.K E Xw fs)) : PE X (.Tuple es kk pos) (tE X.K E Xw fun ρ S => (fs ρ S).bind fun ds S1 => if ds.length ≤ LINE then .ok (.tup ds) S1 else .bad) := by
  refine (pe_tup h).wk fun σ H Q ⟨W, ρ, S, rel, res⟩ => ⟨W, ρ, S, rel, (Res.bind res).mono fun ds S1 W1 H1 l1 w1 p vs rv => ?_⟩
  split at p
  · rename_i hz
    have hz' : vs.length ≤ sizeLine := by rw [size_line, ← rv.length]; exact hz
    exact ⟨hz', fun t ht => Fin.tup (S := S1) w1 p rv hz' ht⟩
  · exact False.elim p
theorem den_lst {es : List Expr} {fs : Ev → Sto → R (List D)} {pos : Pos} (h : PA X es (tA X.K E Xw fs)) : PE X (.List es pos) (tE X.K E Xw fun ρ S => (fs ρ S).bind fun ds S1 => if ds.length ≤ LINE then .ok (.lst ds) S1 else .bad) := by
  refine (pe_lst h).wk fun σ H Q ⟨W, ρ, S, rel, res⟩ => ⟨W, ρ, S, rel, (Res.bind res).mono fun ds S1 W1 H1 l1 w1 p vs rv => ?_⟩
  split at p
  · rename_i hz
    have hz' : vs.length ≤ sizeLine := by rw [size_line, ← rv.length]; exact hz
    exact ⟨hz', fun t ht => Fin.lst (S := S1) w1 p rv hz' ht⟩
  · exact False.elim p

/-! ### calls -/
theorem back_plain : ∀ {es : List Expr} {env : Env} {pos : Pos}, es.all notStar = true → (backTo pos (starEach es env)).any (·.1) = false
  | [], _, _, _ => rfl
  | e :: es, env, pos, h => by
    have q := Bool.and_eq_true_iff.mp (show (notStar e && es.all notStar) = true from h)
    rw [star_ok q.1]
    show (false || (backTo pos (starEach es env)).any (·.1)) = false
    rw [back_plain q.2] <;> rfl
theorem den_call {x : Str} {e : Expr} {es : List Expr} {fs : Ev → Sto → R (List D)} {p pos : Pos} (c : Cok X g C ev E N sc Xw k) (hp : plainName x = true) (hg : glB sc x = true) (hf : (g.fn x).isSome = true) (hn : (e :: es).all notStar = true)
    (h : PA X (e :: es) (tA X.K E Xw fs)) : PE X (.Call (.Name x p) (e :: es) [] pos) (tE X.K E Xw fun ρ S => (fs ρ S).bind fun ds S1 => C x ds S1) := by
  obtain ⟨fd, hfd⟩ := Option.isSome_iff_exists.mp hf
  obtain ⟨f, fdat, hm, hk, hb, F⟩ := c.fns x fd hfd
  have q := Bool.and_eq_true_iff.mp (show (notStar e && es.all notStar) = true from hn)
  refine (pe_callG F (c.room.mono (Nat.le_succ _)) c.gd (glOk hg c.hsc) hm hk hb (Ex := WE (wxOf ev Xw)) (fun σ => passA c.tk σ) h (plain3 hp).1 (star_ok q.1) (back_plain q.2)).wk fun σ H Q ⟨W, ρ, S, rel, res⟩ => ⟨W, ρ, S, rel, (Res.bind res).mono fun ds S1 W1 H1 l1 w1 pp vs rv => ?_⟩
  refine ⟨?_, W1, S1, ds, l1.w.trans (rel.w c.ew), w1, rv, ?_⟩
  · rw [← rv.length]
    exact c.ar x fd ds S1 hfd fun z => by rw [z] at pp; exact pp
  · cases z : C x ds S1 with
    | ok d S' => rw [z] at pp; exact pp
    | err cc S' => rw [z] at pp; exact fun W' H' l w => ⟨cc, rfl, rfl, pp W' H' l w⟩
    | bad => rw [z] at pp; exact pp

/-! ### built-ins -/
theorem bi_step {x : Str} {e : Expr} {es : List Expr} {fs : Ev → Sto → R (List D)} {p pos : Pos} {r : List V → Hp → VK → Prop} (hp : PE X (.Call (.Name x p) (e :: es) [] pos) (tCB r (tTs X.K E Xw fs))) (hr : ∀ vs H Q, rCall X.K x vs H Q → r vs H Q) :
    PE X (.Call (.Name x p) (e :: es) [] pos) (tE X.K E Xw fun ρ S => (fs ρ S).bind fun ds S1 => R.opt (callD x (ds.map (view S1))) S1) := by
  refine hp.wk fun σ H Q ⟨W, ρ, S, rel, res⟩ => ⟨W, ρ, S, rel, (Res.bind res).mono fun ds S1 W1 H1 l1 w1 pp vs rv => hr _ _ _ ?_⟩
  obtain ⟨d, e1, f⟩ := pp.opt
  exact ⟨W1, S1, _, d, w1, rv.sees w1, e1, fun W' H' l w v r => f W' H' l w v r⟩
theorem den_bi {x : Str} {e : Expr} {es : List Expr} {fs : Ev → Sto → R (List D)} {p pos : Pos} (c : Cok X g C ev E N sc Xw k) (hp : plainName x = true) (hg : glB sc x = true) (hb : g.bi x = true) (hbc : biC x = true) (hn : (e :: es).all notStar = true)
    (h : PA X (e :: es) (tTs X.K E Xw fs)) : PE X (.Call (.Name x p) (e :: es) [] pos) (tE X.K E Xw fun ρ S => (fs ρ S).bind fun ds S1 => R.opt (callD x (ds.map (view S1))) S1) := by
  have q := Bool.and_eq_true_iff.mp (show (notStar e && es.all notStar) = true from hn)
  have hG := glOk hg c.hsc
  have hm := c.bis x hb
  have s1 : starEach (e :: es) X.env = (false, eval e X.env) :: starEach es X.env := star_ok q.1
  have s2 : ∀ pos, (backTo pos (starEach es X.env)).any (·.1) = false := fun _ => back_plain q.2
  by_cases h1 : x = "len"
  · subst h1; exact bi_step (pe_callB cb_len hG hm (by decide +kernel) h (by decide) (by decide) s1 (s2 _)) fun _ _ _ z => z
  by_cases h2 : x = "sum"
  · subst h2; exact bi_step (pe_callB (cb_sum c.calm) hG hm (by decide +kernel) h (by decide) (by decide) s1 (s2 _)) fun _ _ _ z => z
  by_cases h3 : x = "tuple"
  · subst h3; exact bi_step (pe_callTy cb_tuple hG hm (by decide +kernel) h (by decide) (by decide) s1 (s2 _)) fun _ _ _ z => z
  by_cases h4 : x = "abs"
  · subst h4; exact bi_step (pe_callB cb_abs hG hm (by decide +kernel) h (by decide) (by decide) s1 (s2 _)) fun _ _ _ z => z
  by_cases h5 : x = "int"
  · subst h5; exact bi_step (pe_callTy cb_int hG hm (by decide +kernel) h (by decide) (by decide) s1 (s2 _)) fun _ _ _ z => z
  by_cases h6 : x = "max"
  · subst h6; exact bi_step (pe_callB (cb_max c.calm) hG hm (by decide +kernel) h (by decide) (by decide) s1 (s2 _)) fun _ _ _ z => z
  by_cases h7 : x = "min"
  · subst h7; exact bi_step (pe_callB (cb_min c.calm) hG hm (by decide +kernel) h (by decide) (by decide) s1 (s2 _)) fun _ _ _ z => z
  by_cases h8 : x = "sorted"
  · subst h8; exact bi_step (pe_callB (cb_sorted (by have := c.room.un; omega)) hG hm (by decide +kernel) h (by decide) (by decide) s1 (s2 _)) fun _ _ _ z => z
  by_cases h9 : x = "str"
  · subst h9; exact bi_step (pe_callTy cb_str hG hm (by decide +kernel) h (by decide) (by decide) s1 (s2 _)) fun _ _ _ z => z
  by_cases h10 : x = "list"
  · subst h10; exact bi_step (pe_callTy (cb_list c.calm) hG hm (by decide +kernel) h (by decide) (by decide) s1 (s2 _)) fun _ _ _ z => z
  by_cases h11 : x = "repr"
  · subst h11; exact bi_step (pe_callB (cb_repr c.gd c.hu) hG hm (by decide +kernel) h (by decide) (by decide) s1 (s2 _)) fun _ _ _ z => z
  simp only [biC, h1, h2, h3, h4, h5, h6, h7, h8, h9, h10, h11] at hbc
  exact absurd hbc (by decide)
/-! ### isinstance -/
theorem isi_types {d : D} {T : Str} {b : Bool} (h : isiD T d = some b) : ∃ Ts, T = Str.ofString Ts ∧ bootBuiltins T = some (.type Ts) ∧ ∀ {W : Wd} {H : Hp} {S : Sto} {v : V}, WS X.K W H S → See X.K W H d v → ∃ t, TyX X.K H v t ∧ PySem.W.kitOne X.K t (.type Ts) = some b := by
  unfold isiD at h
  split at h
  · cases h
  · cases h
  · cases h
  · rename_i hr hr2 hr3
    have nd : (∀ kvs, d ≠ .dct kvs) ∧ (∀ x, d ≠ .fn x) ∧ ∀ i, d ≠ .ref i := ⟨fun kvs z => hr2 kvs z, fun x z => hr3 x z, fun i z => hr i z⟩
    split at h
    · rename_i e; subst e
      refine ⟨"int", rfl, by decide +kernel, fun {W H S v} w r => ?_⟩
      cases d <;> first | (cases r; done) | exact absurd rfl (nd.1 _) | exact absurd rfl (nd.2.1 _) | exact absurd rfl (nd.2.2 _) | (cases h; exact ⟨_, tyx w nd r rfl, kit_ty (by dsimp only [tyN]; decide +kernel)⟩)
    split at h
    · rename_i e; subst e
      refine ⟨"bool", rfl, by decide +kernel, fun {W H S v} w r => ?_⟩
      cases d <;> first | (cases r; done) | exact absurd rfl (nd.1 _) | exact absurd rfl (nd.2.1 _) | exact absurd rfl (nd.2.2 _) | (cases h; exact ⟨_, tyx w nd r rfl, kit_ty (by dsimp only [tyN]; decide +kernel)⟩)
    split at h
    · rename_i e; subst e
      refine ⟨"str", rfl, by decide +kernel, fun {W H S v} w r => ?_⟩
      cases d <;> first | (cases r; done) | exact absurd rfl (nd.1 _) | exact absurd rfl (nd.2.1 _) | exact absurd rfl (nd.2.2 _) | (cases h; exact ⟨_, tyx w nd r rfl, kit_ty (by dsimp only [tyN]; decide +kernel)⟩)
    split at h
    · rename_i e; subst e
      refine ⟨"tuple", rfl, by decide +kernel, fun {W H S v} w r => ?_⟩
      cases d <;> first | (cases r; done) | exact absurd rfl (nd.1 _) | exact absurd rfl (nd.2.1 _) | exact absurd rfl (nd.2.2 _) | (cases h; exact ⟨_, tyx w nd r rfl, kit_ty (by dsimp only [tyN]; decide +kernel)⟩)
    · cases h
theorem isT_boot {T : Str} (h : isT T = true) : ∃ Ts, T = Str.ofString Ts ∧ bootBuiltins T = some (.type Ts) := by
  unfold isT at h
  simp only [Bool.or_eq_true, decide_eq_true_eq] at h
  rcases h with ((h | h) | h) | h
  · subst h; exact ⟨"int", rfl, by decide +kernel⟩
  · subst h; exact ⟨"bool", rfl, by decide +kernel⟩
  · subst h; exact ⟨"str", rfl, by decide +kernel⟩
  · subst h; exact ⟨"tuple", rfl, by decide +kernel⟩
theorem ofString_inj {a b : String} (h : Str.ofString a = Str.ofString b) (ha : bootBuiltins (Str.ofString a) = some (.type a)) (hb : bootBuiltins (Str.ofString b) = some (.type b)) : a = b := by
  rw [h, hb] at ha
  exact (Value.type.inj (Option.some.inj ha)).symm
theorem den_isi {a : Expr} {T : Str} {p q pos : Pos} (c : Cok X g C ev E N sc Xw k) (hg : glB sc "isinstance" = true) (hb : g.bi "isinstance" = true) (hgT : glB sc T = true) (hbT : g.bi T = true) (hpT : plainName T = true) (hT : isT T = true) (hn : notStar a = true) (h : PE X a (tT X.K E Xw fa)) :
    PE X (.Call (.Name "isinstance" p) [a, .Name T q] [] pos) (tE X.K E Xw fun ρ S => (fa ρ S).bind fun d S1 => R.opt ((isiD T (view S1 d)).map D.bl) S1) := by
  obtain ⟨Ts, eT, bT⟩ := isT_boot hT
  obtain ⟨n1, n2, n3⟩ := plain3 hpT
  have hN : PE X (.Name T q) (tC (.ty Ts)) := pe_bltn (v := .ty Ts) (glOk hgT c.hsc) (c.bis T hbT) bT rfl n3 n1
  have hA : PA X [a, .Name T q] (tCons (tT X.K E Xw fa) (tCons (tC (.ty Ts)) tNil)) := pa_cons h (pa_cons hN pa_nil rfl) (star_ok hn)
  refine (pe_callB call_isi (glOk hg c.hsc) (c.bis _ hb) (by decide +kernel) hA (by decide) (by decide) (star_ok hn) rfl).wk fun σ H Q ⟨W, ρ, S, rel, res⟩ => ⟨W, ρ, S, rel, (Res.bind res).mono fun d S1 W1 H1 l1 w1 p v rv => ?_⟩
  obtain ⟨d', e, f⟩ := p.opt
  obtain ⟨b, e1, rfl⟩ := Option.map_eq_some_iff.mp e
  obtain ⟨Ts', eT', bT', hk⟩ := isi_types (X := X) e1
  have es : Ts' = Ts := by
    rw [bT] at bT'
    exact (Value.type.inj (Option.some.inj bT')).symm
  subst es
  obtain ⟨t, ty, kt⟩ := hk w1 (rv.see w1)
  exact ⟨v, .ty Ts', t, .type Ts', b, rfl, .ty _, ty, kt, f W1 H1 w1.refl w1 _ (.bl _)⟩

/-! ### slices -/
variable (X E Xw) in
def tO (f : Ev → Sto → R (Option Int)) : TO := fun σ H Q => ∃ W ρ S, Rel X.K E W H ρ σ S ∧ Res X.K E Xw W H ρ σ (f ρ S) fun o _ W' H' => Q o H'
theorem PO.wk {e : Option Expr} {t t' : TO} (h : PO X e t) (w : ∀ σ H Q, t' σ H Q → t σ H Q) : PO X e t' := ⟨fun pins s σ H Q I q => h.run pins s σ H Q I (w σ H Q q)⟩
theorem den_onone : PO X none (tO X E Xw fun _ S => .ok none S) := PO.wk po_none fun σ H Q ⟨W, ρ, S, rel, res⟩ => res W H rel.ws.refl rel.ws
theorem den_osome {e : Expr} (h : PE X e (tE X.K E Xw fa)) : PO X (some e) (tO X E Xw fun ρ S => (fa ρ S).bind fun d S1 => match d with
    | .int i => .ok (some i) S1
    | _ => .bad) := by
  refine PO.wk (po_some h) fun σ H Q ⟨W, ρ, S, rel, res⟩ => ⟨W, ρ, S, rel, (Res.bind res).mono fun d S1 W1 H1 l1 w1 p v rv => ?_⟩
  cases rv with
  | int i => exact ⟨i, rfl, p W1 H1 w1.refl w1⟩
  | _ => exact False.elim p
theorem den_slice {a : Expr} {lo hi : Option Expr} {fl fh : Ev → Sto → R (Option Int)} {p2 pos : Pos} (ha : PE X a (tT X.K E Xw fa)) (hl : PO X lo (tO X E Xw fl)) (hh : PO X hi (tO X E Xw fh)) :
    PE X (.Subscript a (.Slice lo hi none p2) pos) (tE X.K E Xw fun ρ S => (fa ρ S).bind fun x S1 => (fl ρ S1).bind fun l S2 => (fh ρ S2).bind fun h S3 => R.opt (sliceD (view S3 x) l h) S3) := by
  refine (pe_slice sl_D ha hl hh).wk fun σ H Q ⟨W, ρ, S, rel, res⟩ => ⟨W, ρ, S, rel, (Res.bind res).mono fun d S1 W1 H1 l1 w1 p v rv => ?_⟩
  refine ⟨W1, ρ, S1, rel.step l1 w1, (Res.bind p).mono fun l S2 W2 H2 l2 w2 q => ?_⟩
  refine ⟨W2, ρ, S2, (rel.step l1 w1).step l2 w2, (Res.bind q).mono fun h S3 W3 H3 l3 w3 q3 => ?_⟩
  obtain ⟨z, e, f⟩ := q3.opt
  exact ⟨W3, S3, _, z, w3, ((rv.le w1 l2).le w2 l3).see w3, e, fun W' H' l w v r => f W' H' l w v r⟩
theorem strs_rep {K : PySem.W.Frag} {W : Wd} {H : Hp} : ∀ {ds : List D} {vs : List V} {ys : List Str}, Reps K W H ds vs → strsOf ds = some ys → vs = ys.map V.str
  | _, _, ys, .nil, e => by cases e; rfl
  | _, _, ys, .cons r rs, e => by
    cases r with
    | str z =>
      obtain ⟨zs, h1, rfl⟩ := Option.map_eq_some_iff.mp (show (strsOf _).map (z :: ·) = some ys from e)
      rw [strs_rep rs h1]; rfl
    | _ => cases e
theorem reps_strs {K : PySem.W.Frag} {W : Wd} {H : Hp} : ∀ ys : List Str, Reps K W H (ys.map D.str) (ys.map V.str)
  | [] => .nil
  | y :: ys => .cons (.str y) (reps_strs ys)
theorem base_ok {o : Expr} {m : Str} {env : Env} (h : nameOrC o = true) : attributeBase o m env (eval o env) = eval o env := by
  cases o <;> first | rfl | cases h
theorem den_split {o a : Expr} {apos pos : Pos} {fb : Ev → Sto → R D} (ho : nameOrC o = true) (hn : notStar a = true) (hl : (apos.endLine == pos.line) = true) (h1 : PE X o (tT X.K E Xw fa)) (h2 : PE X a (tE X.K E Xw fb)) :
    PE X (.Call (.Attribute o "split" apos) [a] [] pos) (tE X.K E Xw fun ρ S => (fa ρ S).bind fun x S1 => strM x fun z => (fb ρ S1).bind fun y S2 => R.opt (splitD z y) S2) := by
  refine (pe_split h1 h2 (by rw [star_ok hn] <;> rfl) (base_ok ho) hl).wk fun σ H Q ⟨W, ρ, S, rel, res⟩ => ⟨W, ρ, S, rel, (Res.bind res).mono fun d S1 W1 H1 l1 w1 p v rv => ?_⟩
  have ex : ∃ z, d = .str z := by
    cases d with
    | str z => exact ⟨z, rfl⟩
    | _ => exact False.elim p
  obtain ⟨z, rfl⟩ := ex
  rcases rv with rv | rv
  · cases rv
    refine ⟨⟨z, rfl⟩, W1, ρ, S1, rel.step l1 w1, (Res.bind p).mono fun y S2 W2 H2 l2 w2 q u ru => ?_⟩
    obtain ⟨d', e, f⟩ := q.opt
    unfold splitD at e
    split at e
    · split at e
      · rename_i hc
        cases e
        cases ru
        exact ⟨z, _, rfl, rfl, hc.1, by rw [size_line]; exact hc.2, fun p hp => Fin.lst w2 (fun W' H' l w v r => f W' H' l w v r) (reps_strs _) (by rw [List.length_map]; exact Nat.le_trans (PyProof.Rows.split_le z _) (by rw [size_line]; exact hc.2)) hp⟩
      · cases e
    · cases e
  · obtain ⟨_, _, _, h, _⟩ := rv
    cases h
theorem den_join {o a : Expr} {apos pos : Pos} {fb : Ev → Sto → R D} (ho : nameOrC o = true) (hn : notStar a = true) (hl : (apos.endLine == pos.line) = true) (h1 : PE X o (tT X.K E Xw fa)) (h2 : PE X a (tE X.K E Xw fb)) :
    PE X (.Call (.Attribute o "join" apos) [a] [] pos) (tE X.K E Xw fun ρ S => (fa ρ S).bind fun x S1 => strM x fun z => (fb ρ S1).bind fun y S2 => R.opt (joinD z y) S2) := by
  refine (pe_join h1 h2 (by rw [star_ok hn] <;> rfl) (base_ok ho) hl).wk fun σ H Q ⟨W, ρ, S, rel, res⟩ => ⟨W, ρ, S, rel, (Res.bind res).mono fun d S1 W1 H1 l1 w1 p v rv => ?_⟩
  have ex : ∃ z, d = .str z := by
    cases d with
    | str z => exact ⟨z, rfl⟩
    | _ => exact False.elim p
  obtain ⟨z, rfl⟩ := ex
  rcases rv with rv | rv
  · cases rv
    refine ⟨⟨z, rfl⟩, W1, ρ, S1, rel.step l1 w1, (Res.bind p).mono fun y S2 W2 H2 l2 w2 q u ru => ?_⟩
    obtain ⟨d', e, f⟩ := q.opt
    have f1 := f W2 H2 w2.refl w2
    unfold joinD at e
    split at e
    · unfold joinS at e
      obtain ⟨ys, e1, e2⟩ := Option.bind_eq_some_iff.mp e
      split at e2
      · rename_i hc
        cases e2
        cases ru with
        | lst fz g r =>
          rw [strs_rep r e1] at g
          exact ⟨z, _, ys, rfl, rfl, .inl (.inl g), hc, f1 _ (.str _)⟩
      · cases e2
    · unfold joinS at e
      obtain ⟨ys, e1, e2⟩ := Option.bind_eq_some_iff.mp e
      split at e2
      · rename_i hc
        cases e2
        cases ru with
        | tup g r =>
          rw [strs_rep r e1] at g
          exact ⟨z, _, ys, rfl, rfl, .inr g, hc, f1 _ (.str _)⟩
      · cases e2
    · cases e
  · obtain ⟨_, _, _, h, _⟩ := rv
    cases h
theorem den_back {a st : Expr} {p2 pos : Pos} (hm : minus1 (some st) = true) (ha : PE X a (tT X.K E Xw fa)) :
    PE X (.Subscript a (.Slice none none (some st) p2) pos) (tE X.K E Xw fun ρ S => (fa ρ S).bind fun x S1 => R.opt (revD (view S1 x)) S1) := by
  refine (pe_back hm ha).wk fun σ H Q ⟨W, ρ, S, rel, res⟩ => ⟨W, ρ, S, rel, (Res.bind res).mono fun d S1 W1 H1 l1 w1 p v rv => ?_⟩
  obtain ⟨d', e, f⟩ := p.opt
  have f : Fin X.K W1 H1 S1 d' Q := fun W' H' l w v r => f W' H' l w v r
  have see := rv.see w1
  unfold revD at e
  split at e
  · rename_i ds q
    cases e
    rw [q] at see
    obtain ⟨t, vs, rfl, hp, r, _, hl⟩ := see.len w1
    exact ⟨t, vs, rfl, .inr ⟨hp, fun z hz => f.tup w1 r.reverse (by rw [List.length_reverse]; exact hl) hz⟩⟩
  · rename_i ds q
    cases e
    rw [q] at see
    obtain ⟨t, vs, rfl, hp, r, _, hl⟩ := see.lenL w1
    exact ⟨t, vs, rfl, .inl ⟨.inl hp, fun z hz => f.lst w1 r.reverse (by rw [List.length_reverse]; exact hl) hz⟩⟩
  · cases e
def notSlice : Expr → Bool
  | .Slice _ _ _ _ => false
  | _ => true
theorem plainIx_of {i : Expr} (h : notSlice i = true) : PlainIx i := by
  intro o v
  cases i <;> first | rfl | cases h
end
end Lw
set_option maxHeartbeats 1000000
/-! LwE: targets, what is walked, comprehensions; the evaluator is right for every expression. -/
namespace Lw
open PySem PySem.Spec PyProof.Rows L2

section
variable {K : PySem.W.Frag} {W W' W0 W1 W2 : Wd} {H H' H0 H1 H2 : Hp} {S S' S1 : Sto} {E : Ent} {ρ ρ' : Ev} {σ σ' : L2.St} {a p : Addr} {ds : List D} {d : D} {v : V}
/-- a list that is held alone -/
structure Held (K : PySem.W.Frag) (W : Wd) (H : Hp) (a : Addr) (ds : List D) (vs : List V) : Prop where
  at_ : H a = some (.lst vs)
  reps : Reps K W H ds vs
  nf : ¬ W.Fz a
  ns : ∀ j, j < W.n → W.μ j ≠ a
theorem Held.le {vs : List V} (w : WS K W H S) (l : Le W H W' H') (h : Held K W H a ds vs) : Held K W' H' a ds vs where
  at_ := l.keep a _ h.at_ h.ns
  reps := h.reps.pre (l.pre w)
  nf := fun f => by
    rcases l.fz' a f with q | q
    · exact h.nf q
    · rw [h.at_] at q; cases q
  ns := fun j hj z => by
    by_cases hl : j < W.n
    · exact h.ns j hl (by rw [← l.mu j hl]; exact z)
    · have q := l.new j (Nat.le_of_not_lt hl) hj
      rw [z, h.at_] at q; cases q
theorem own_pre {vs vs' : List V} (h : Held K W H p ds vs) : Pre K W H W (upd H p (.lst vs')) where
  tup := fun c xs q => by
    rcases q with (q | ⟨o, q⟩) | q
    · exact .inl (.inl (by rw [upd_ne (ne_of q h.at_ (fun z => by cases z))]; exact q))
    · exact .inl (.inr ⟨o, by rw [upd_ne (ne_of q h.at_ (fun z => by cases z))]; exact q⟩)
    · exact .inr q
  fz := fun _ f => f
  frz := fun c xs f q => by
    have ne : c ≠ p := fun z => h.nf (by rw [← z]; exact f)
    rcases q with q | ⟨o, q⟩
    · exact .inl (by rw [upd_ne ne]; exact q)
    · exact .inr ⟨o, by rw [upd_ne ne]; exact q⟩
  n := Nat.le_refl _
  mu := fun _ _ => rfl
  w := rfl
theorem own_ws {vs vs' : List V} (w : WS K W H S) (h : Held K W H p ds vs) (hl : vs'.length ≤ sizeLine) : WS K W (upd H p (.lst vs')) S where
  len := w.len
  ob := fun i o e => by
    have m := w.ob i o e
    refine m.pre (own_pre h) ?_
    have hi : i < W.n := by rw [← w.len]; exact (List.getElem?_eq_some_iff.mp e).1
    rw [upd_ne (h.ns i hi)]
  inj := w.inj
  nfz := w.nfz
  fz := fun c f => by
    by_cases e : c = p
    · rw [e, upd_same]; exact fun z => by cases z
    · rw [upd_ne e]; exact w.fz c f
  wf := fun c xs q => by
    by_cases e : c = p
    · subst e
      rcases q with q | ⟨o, q⟩
      · rw [upd_same] at q; cases q; exact hl
      · rw [upd_same] at q; cases q
    · rcases q with q | ⟨o, q⟩
      · rw [upd_ne e] at q; exact w.wf c xs (.inl q)
      · rw [upd_ne e] at q; exact w.wf c xs (.inr ⟨o, q⟩)
  wft := fun c xs q => by
    by_cases e : c = p
    · subst e
      rcases q with (q | ⟨o, q⟩) | q
      · rw [upd_same] at q; cases q
      · rw [upd_same] at q; cases q
      · exact w.wft c xs (.inr q)
    · rcases q with (q | ⟨o, q⟩) | q
      · rw [upd_ne e] at q; exact w.wft c xs (.inl (.inl q))
      · rw [upd_ne e] at q; exact w.wft c xs (.inl (.inr ⟨o, q⟩))
      · exact w.wft c xs (.inr q)
/-- a thing of one's own is written, whatever it is -/
theorem own_pre' {o0 o1 : HO} (at_ : H p = some o0) (nt : ∀ xs, o0 ≠ .tup xs) (nz : ∀ ob u, o0 ≠ .frz ob u) (nf : ¬ W.Fz p) : Pre K W H W (upd H p o1) where
  tup := fun c xs q => by
    rcases q with (q | ⟨o, q⟩) | q
    · exact .inl (.inl (by rw [upd_ne fun z => by rw [z, at_] at q; exact nt _ (Option.some.inj q)]; exact q))
    · exact .inl (.inr ⟨o, by rw [upd_ne fun z => by rw [z, at_] at q; exact nz _ _ (Option.some.inj q)]; exact q⟩)
    · exact .inr q
  fz := fun _ f => f
  frz := fun c xs f q => by
    have ne : c ≠ p := fun z => nf (by rw [← z]; exact f)
    rcases q with q | ⟨o, q⟩
    · exact .inl (by rw [upd_ne ne]; exact q)
    · exact .inr ⟨o, by rw [upd_ne ne]; exact q⟩
  n := Nat.le_refl _
  mu := fun _ _ => rfl
  w := rfl
theorem own_ws' {o0 o1 : HO} (w : WS K W H S) (at_ : H p = some o0) (nt : ∀ xs, o0 ≠ .tup xs) (nz : ∀ ob u, o0 ≠ .frz ob u) (nf : ¬ W.Fz p) (ns : ∀ j, j < W.n → W.μ j ≠ p) (nl : ∀ xs, o1 ≠ .lst xs) (nt1 : ∀ xs, o1 ≠ .tup xs) (nz1 : ∀ ob u, o1 ≠ .frz ob u) : WS K W (upd H p o1) S where
  len := w.len
  ob := fun i o e => by
    have m := w.ob i o e
    refine m.pre (own_pre' at_ nt nz nf) ?_
    have hi : i < W.n := by rw [← w.len]; exact (List.getElem?_eq_some_iff.mp e).1
    rw [upd_ne (ns i hi)]
  inj := w.inj
  nfz := w.nfz
  fz := fun c f => by
    by_cases e : c = p
    · rw [e, upd_same]; exact fun z => by cases z
    · rw [upd_ne e]; exact w.fz c f
  wf := fun c xs q => by
    by_cases e : c = p
    · subst e
      rcases q with q | ⟨o, q⟩
      · rw [upd_same] at q; exact absurd (Option.some.inj q) (nl _)
      · rw [upd_same] at q; exact absurd (Option.some.inj q) (nz1 _ _)
    · rcases q with q | ⟨o, q⟩
      · rw [upd_ne e] at q; exact w.wf c xs (.inl q)
      · rw [upd_ne e] at q; exact w.wf c xs (.inr ⟨o, q⟩)
  wft := fun c xs q => by
    by_cases e : c = p
    · subst e
      rcases q with (q | ⟨o, q⟩) | q
      · rw [upd_same] at q; exact absurd (Option.some.inj q) (nt1 _)
      · rw [upd_same] at q; exact absurd (Option.some.inj q) (nz1 _ _)
      · exact w.wft c xs (.inr q)
    · rcases q with (q | ⟨o, q⟩) | q
      · rw [upd_ne e] at q; exact w.wft c xs (.inl (.inl q))
      · rw [upd_ne e] at q; exact w.wft c xs (.inl (.inr ⟨o, q⟩))
      · exact w.wft c xs (.inr q)
/-- a dict that is held alone -/
structure HeldD (W : Wd) (H : Hp) (a : Addr) (ks : List Int) : Prop where
  at_ : H a = some (.dK (kTrue ks))
  nf : ¬ W.Fz a
  ns : ∀ j, j < W.n → W.μ j ≠ a
theorem HeldD.le {ks : List Int} (l : Le W H W' H') (h : HeldD W H a ks) : HeldD W' H' a ks where
  at_ := l.keep a _ h.at_ h.ns
  nf := fun f => by
    rcases l.fz' a f with q | q
    · exact h.nf q
    · rw [h.at_] at q; cases q
  ns := fun j hj z => by
    by_cases hl : j < W.n
    · exact h.ns j hl (by rw [← l.mu j hl]; exact z)
    · have q := l.new j (Nat.le_of_not_lt hl) hj
      rw [z, h.at_] at q; cases q
theorem put_true (ks : List Int) (i : Int) : putK (kTrue ks) (Sum.inl i : Key) (V.bl true) = kTrue (putI ks i) := by
  unfold putK putI
  have e : ((kTrue ks).any fun kv => decide (kv.1 = (Sum.inl i : Key))) = decide (i ∈ ks) := by
    unfold kTrue
    rw [List.any_map]
    induction ks with
    | nil => rfl
    | cons k ks ih =>
      rw [List.any_cons, ih]
      simp only [Function.comp_apply, List.mem_cons, Sum.inl.injEq, Bool.decide_or]
      congr 1
      exact decide_eq_decide.mpr ⟨fun z => z.symm, fun z => z.symm⟩
  rw [e]
  by_cases h : i ∈ ks
  · rw [if_pos (decide_eq_true h), if_pos h]
    unfold kTrue
    rw [List.map_map]
    refine List.map_congr_left fun k _ => ?_
    simp only [Function.comp_apply]
    split <;> rfl
  · rw [if_neg (by simp [h]), if_neg h]
    simp [kTrue]
theorem putI_len (ks : List Int) (i : Int) : (putI ks i).length ≤ ks.length + 1 := by
  unfold putI
  split
  · exact Nat.le_succ _
  · rw [List.length_append]; exact Nat.le_refl _
theorem dedup_snoc (ks : List Int) (i : Int) : dedupI (ks ++ [i]) = putI (dedupI ks) i := by
  unfold dedupI
  rw [List.foldl_append]; rfl
theorem dedup_len (ks : List Int) : (dedupI ks).length ≤ ks.length := by
  have key : ∀ (l acc : List Int), (l.foldl putI acc).length ≤ acc.length + l.length := by
    intro l
    induction l with
    | nil => intro acc; exact Nat.le_refl _
    | cons x l ih =>
      intro acc
      have h1 := ih (putI acc x)
      have h2 := putI_len acc x
      rw [List.foldl_cons, List.length_cons]
      omega
  have h := key ks []
  rw [List.length_nil, Nat.zero_add] at h
  exact h
theorem keys_ints : ∀ ks : List Int, keysOf (ks.map D.int) = ks
  | [] => rfl
  | k :: ks => by
    show k :: keysOf (ks.map D.int) = _
    rw [keys_ints ks]
theorem le_own {o : HO} (l : Le W0 H0 W H) (h0 : H0 p = none) : Le W0 H0 W (upd H p o) where
  keep := fun b u e h => by rw [upd_ne (ne_of_none e h0)]; exact l.keep b u e h
  sto := fun i hi => by
    by_cases e : W0.μ i = p
    · rw [e, upd_same]; exact fun z => by cases z
    · rw [upd_ne e]; exact l.sto i hi
  n := l.n
  mu := l.mu
  fz := l.fz
  fz' := l.fz'
  new := l.new
  w := l.w
theorem le_add (l : Le W0 H0 W H) (h0 : H0 p = none) : Le W0 H0 (W.add p) H :=
  ⟨l.keep, l.sto, l.n, l.mu, fun a h => .inl (l.fz a h), fun a h => by
    rcases h with h | h
    · exact l.fz' a h
    · rw [h]; exact .inr h0, l.new, l.w⟩
theorem pre_add : Pre K W H (W.add p) H := ⟨fun _ _ h => h, fun _ h => .inl h, fun _ _ _ h => h, Nat.le_refl _, fun _ _ => rfl, rfl⟩
theorem ws_add (w : WS K W H S) (hp : H p ≠ none) (ns : ∀ j, j < W.n → W.μ j ≠ p) : WS K (W.add p) H S :=
  ⟨w.len, fun i o e => (w.ob i o e).pre pre_add rfl, w.inj, fun i hi f => by
    rcases f with f | f
    · exact w.nfz i hi f
    · exact ns i hi f, fun a f => by
    rcases f with f | f
    · exact w.fz a f
    · rw [f]; exact hp, w.wf, w.wft⟩

/-! ### slots -/
theorem getSl_set {i j : Nat} {s : Sl} (hi : i < ρ.length) : getSl (ρ.set i s) j = if j = i then s else getSl ρ j := by
  unfold getSl
  rw [List.getD_eq_getElem?_getD, List.getD_eq_getElem?_getD]
  by_cases e : j = i
  · subst e
    rw [List.getElem?_set_self hi, if_pos rfl] <;> rfl
  · rw [List.getElem?_set_ne (Ne.symm e), if_neg e]
theorem Rel.set (r : Rel K E W H ρ σ S) {i : Nat} (hi : i < ρ.length) (rd : Rep K W H d v) : Rel K E W H (ρ.set i (.val d)) (σ.set i (some v)) S where
  ws := r.ws
  le := r.le
  len := by rw [List.length_set, List.length_set]; exact r.len
  val := fun j e h => by
    rw [getSl_set hi] at h
    by_cases q : j = i
    · rw [if_pos q] at h; cases h; subst q
      exact ⟨v, List.getElem?_set_self (by rw [← r.len]; exact hi), rd⟩
    · rw [if_neg q] at h
      rw [List.getElem?_set_ne (Ne.symm q)]
      exact r.val j e h
  own := fun j es h => by
    rw [getSl_set hi] at h
    by_cases q : j = i
    · rw [if_pos q] at h; cases h
    · rw [if_neg q] at h
      rw [List.getElem?_set_ne (Ne.symm q)]
      exact r.own j es h
  apart := fun j l es fs b h1 h2 h3 h4 => by
    rw [getSl_set hi] at h1 h2
    by_cases q : j = i
    · rw [if_pos q] at h1; cases h1
    · by_cases q2 : l = i
      · rw [if_pos q2] at h2; cases h2
      · rw [if_neg q] at h1; rw [if_neg q2] at h2
        rw [List.getElem?_set_ne (Ne.symm q)] at h3; rw [List.getElem?_set_ne (Ne.symm q2)] at h4
        exact r.apart j l es fs b h1 h2 h3 h4
theorem wipeE_length (ρ : Ev) : ∀ vs : List Nat, (wipeE ρ vs).length = ρ.length
  | [] => rfl
  | v :: vs => by unfold wipeE; rw [List.length_set, wipeE_length ρ vs]
theorem getSl_wipe {i : Nat} {s : Sl} (ne : s ≠ .un) : ∀ {vs : List Nat}, getSl (wipeE ρ vs) i = s → getSl ρ i = s ∧ i ∉ vs
  | [], h => ⟨h, by simp⟩
  | v :: vs, h => by
    unfold wipeE at h
    by_cases hv : v < (wipeE ρ vs).length
    · rw [getSl_set hv] at h
      by_cases q : i = v
      · rw [if_pos q] at h; exact absurd h.symm ne
      · rw [if_neg q] at h
        obtain ⟨h1, h2⟩ := getSl_wipe ne h
        exact ⟨h1, by simp only [List.mem_cons, not_or]; exact ⟨q, h2⟩⟩
    · rw [List.set_eq_of_length_le (Nat.le_of_not_lt hv)] at h
      obtain ⟨h1, h2⟩ := getSl_wipe ne h
      have q0 : ¬ i = v := fun q => by
        have := getSl_lt h1 ne
        rw [wipeE_length] at hv
        rw [q] at this
        exact hv this
      exact ⟨h1, by simp only [List.mem_cons, not_or]; exact ⟨q0, h2⟩⟩
theorem Rel.wipe (r : Rel K E W H ρ σ S) (vs : List Nat) : Rel K E W H (wipeE ρ vs) (L2.wipe σ vs) S where
  ws := r.ws
  le := r.le
  len := by rw [wipeE_length, L2.wipe_length]; exact r.len
  val := fun j e h => by
    obtain ⟨h1, h2⟩ := getSl_wipe (fun z => by cases z) h
    rw [wipe_out h2]
    exact r.val j e h1
  own := fun j es h => by
    obtain ⟨h1, h2⟩ := getSl_wipe (fun z => by cases z) h
    rw [wipe_out h2]
    exact r.own j es h1
  apart := fun j l es fs b h1 h2 h3 h4 => by
    obtain ⟨p1, q1⟩ := getSl_wipe (fun z => by cases z) h1
    obtain ⟨p2, q2⟩ := getSl_wipe (fun z => by cases z) h2
    rw [wipe_out q1] at h3; rw [wipe_out q2] at h4
    exact r.apart j l es fs b p1 p2 h3 h4
/-- a list that lies in no slot of the frame's own is written -/
theorem Rel.alien {vs vs' : List V} (r : Rel K E W H ρ σ S) (hd : Held K W H p ds vs) (hE : E.H p = none) (hl : vs'.length ≤ sizeLine) (ap : ∀ j es b, getSl ρ j = .own es → σ[j]? = some (some (.ref b)) → b ≠ p) : Rel K E W (upd H p (.lst vs')) ρ σ S where
  ws := own_ws r.ws hd hl
  le := le_own r.le hE
  len := r.len
  val := fun j d h => by
    obtain ⟨v, h1, h2⟩ := r.val j d h
    exact ⟨v, h1, h2.pre (own_pre hd)⟩
  own := fun j es h => by
    obtain ⟨b, h1, us, b1, b2, b3, b4, b5⟩ := r.own j es h
    exact ⟨b, h1, us, by rw [upd_ne (ap j es b h h1)]; exact b1, b2.pre (own_pre hd), b3, b4, b5⟩
  apart := r.apart
theorem wipe_in {i : Nat} : ∀ {vs : List Nat} {σ : L2.St}, i ∈ vs → (L2.wipe σ vs)[i]? = if i < σ.length then some none else none
  | [], _, h => by simp at h
  | v :: vs, σ, h => by
    unfold L2.wipe
    by_cases e : v = i
    · subst e
      by_cases hl : v < σ.length
      · rw [List.getElem?_set_self (by rw [L2.wipe_length]; exact hl), if_pos hl]
      · rw [List.getElem?_eq_none (by rw [List.length_set, L2.wipe_length]; omega), if_neg hl]
    · rw [List.getElem?_set_ne e]
      rcases List.mem_cons.mp h with q | q
      · exact absurd q.symm e
      · exact wipe_in q
theorem wipe_eq {vs : List Nat} {ix : List Nat} (hix : ∀ i ∈ ix, i ∈ vs) (hl : σ'.length = (L2.wipe σ vs).length) (out : ∀ j, j ∉ ix → σ'[j]? = (L2.wipe σ vs)[j]?) : L2.wipe σ' vs = L2.wipe σ vs := by
  apply List.ext_getElem?
  intro j
  have hl' : σ'.length = σ.length := by rw [hl, L2.wipe_length]
  by_cases h : j ∈ vs
  · rw [wipe_in h, wipe_in h, hl']
  · rw [wipe_out h, wipe_out h, out j fun q => h (hix j q), wipe_out h]

/-! ### targets -/
def tG (K : PySem.W.Frag) (E : Ent) (f : D → Ev → Option Ev) (ix : List Nat) : TG := fun v σ H Q => ∃ W ρ S d ρ', Rel K E W H ρ σ S ∧ Rep K W H d v ∧ f d ρ = some ρ' ∧
  ∀ σ', Rel K E W H ρ' σ' S → σ'.length = σ.length → (∀ j, j ∉ ix → σ'[j]? = σ[j]?) → Q σ' H
def tGs (K : PySem.W.Frag) (E : Ent) (f : List D → Ev → Option Ev) (ix : List Nat) : TGs := fun vs σ H Q => ∃ W ρ S ds ρ', Rel K E W H ρ σ S ∧ Reps K W H ds vs ∧ f ds ρ = some ρ' ∧
  ∀ σ', Rel K E W H ρ' σ' S → σ'.length = σ.length → (∀ j, j ∉ ix → σ'[j]? = σ[j]?) → Q σ' H
end

/-- what the place of a target needs -/
structure Tok' (X : Cx) (N : List Str) (sct : Scope) : Prop where
  hN : X.N = N
  nd : N.Nodup
  calm : X.calm = true
  loc : ∀ x, locB sct x = true → Loc X.env.scope x ∧ (X.fn x = true ∨ X.env.scope.names.lookup x = some .local)
section
variable {X : Cx} {N : List Str} {sct : Scope} {E : Ent}
theorem _root_.L2.PG.wk {e : Expr} {t t' : TG} (h : PG X e t) (w : ∀ v σ H Q, t' v σ H Q → t v σ H Q) : PG X e t' := ⟨fun pins s σ H v u Q I r q => h.run pins s σ H v u Q I r (w v σ H Q q)⟩
theorem _root_.L2.PGs.wk {e : List Expr} {t t' : TGs} (h : PGs X e t) (w : ∀ v σ H Q, t' v σ H Q → t v σ H Q) : PGs X e t' := ⟨fun pins s σ H v u Q I r q => h.run pins s σ H v u Q I r (w v σ H Q q)⟩
theorem each_len : ∀ {es : List Expr} {env : Env}, es.all notStar = true → (assignEach es env).length = es.length ∧ (assignEach es env).findIdx? (·.1) = none
  | [], _, _ => ⟨rfl, rfl⟩
  | e :: es, env, h => by
    have q := Bool.and_eq_true_iff.mp (show (notStar e && es.all notStar) = true from h)
    have e1 : assignEach (e :: es) env = (false, assign e env) :: assignEach es env := by cases e <;> first | rfl | (cases q.1)
    obtain ⟨i1, i2⟩ := each_len (env := env) q.2
    rw [e1]
    refine ⟨by rw [List.length_cons, List.length_cons, i1], ?_⟩
    rw [List.findIdx?_cons, i2] <;> rfl
theorem each_cons {e : Expr} {es : List Expr} {env : Env} (h : notStar e = true) : (assignEach (e :: es) env).map (·.2) = assign e env :: (assignEach es env).map (·.2) := by cases e <;> first | rfl | (cases h)
theorem asg_star {N : List Str} {sct : Scope} : ∀ {n : Nat} {es : List Expr} {ds : List D} {ρ ρ' : Ev}, asgTs N sct n es ds ρ = some ρ' → es.all notStar = true ∧ es.length = ds.length
  | 0, _, _, _, _, h => by cases h
  | n + 1, [], [], _, _, _ => ⟨rfl, rfl⟩
  | n + 1, [], _ :: _, _, _, h => by cases h
  | n + 1, _ :: _, [], _, _, h => by cases h
  | n + 1, e :: es, d :: ds, ρ, ρ', h => by
    have h2 : (asgT N sct n e d ρ).bind (fun ρ1 => asgTs N sct n es ds ρ1) = some ρ' := h
    obtain ⟨ρ1, h3, h4⟩ := Option.bind_eq_some_iff.mp h2
    obtain ⟨q1, q2⟩ := asg_star h4
    refine ⟨?_, by rw [List.length_cons, List.length_cons, q2]⟩
    show (notStar e && es.all notStar) = true
    rw [q1, Bool.and_true]
    cases e <;> first | rfl | (cases n <;> cases h3)
/-- a target leaves a frame's own lists where they were -/
theorem asg_own {N : List Str} {sct : Scope} : ∀ n : Nat, (∀ (e : Expr) (d : D) (ρ ρ' : Ev), asgT N sct n e d ρ = some ρ' → ∀ j os, getSl ρ' j = .own os → j ∉ tgtIx N n e ∧ getSl ρ j = .own os) ∧
    ∀ (es : List Expr) (ds : List D) (ρ ρ' : Ev), asgTs N sct n es ds ρ = some ρ' → ∀ j os, getSl ρ' j = .own os → j ∉ tgtIxs N n es ∧ getSl ρ j = .own os
  | 0 => ⟨fun _ _ _ _ z => (nomatch z), fun _ _ _ _ z => (nomatch z)⟩
  | n + 1 => by
    obtain ⟨ih1, ih2⟩ := asg_own (N := N) (sct := sct) n
    refine ⟨fun e d ρ ρ' z j os h => ?_, fun es ds ρ ρ' z j os h => ?_⟩
    · cases e with
      | Name x pos =>
        have z2 : (if locB sct x && decide (ixOf N x < ρ.length) then some (ρ.set (ixOf N x) (.val d)) else none) = some ρ' := z
        split at z2
        · rename_i hc
          cases z2
          rw [getSl_set (of_decide_eq_true (Bool.and_eq_true_iff.mp hc).2)] at h
          by_cases q : j = ixOf N x
          · rw [if_pos q] at h; cases h
          · rw [if_neg q] at h
            exact ⟨fun m => q (List.mem_singleton.mp m), h⟩
        · cases z2
      | Tuple es kk pos =>
        cases d with
        | tup ds => exact ih2 es ds ρ ρ' z j os h
        | _ => cases z
      | _ => cases z
    · cases es with
      | nil =>
        cases ds with
        | nil =>
          have z2 : some ρ = some ρ' := z
          cases z2
          exact ⟨fun m => (nomatch m), h⟩
        | cons _ _ => cases z
      | cons e es =>
        cases ds with
        | nil => cases z
        | cons d ds =>
          have z2 : (asgT N sct n e d ρ).bind (fun ρ1 => asgTs N sct n es ds ρ1) = some ρ' := z
          obtain ⟨ρ1, h3, h4⟩ := Option.bind_eq_some_iff.mp z2
          obtain ⟨a1, a2⟩ := ih2 es ds ρ1 ρ' h4 j os h
          obtain ⟨a3, a4⟩ := ih1 e d ρ ρ1 h3 j os a2
          refine ⟨fun m => ?_, a4⟩
          have m2 : j ∈ tgtIx N n e ++ tgtIxs N n es := m
          rcases List.mem_append.mp m2 with q | q
          · exact a3 q
          · exact a1 q
theorem tgt_ok (T : Tok' X N sct) : ∀ n : Nat, (∀ e, PG X e (tG X.K E (asgT N sct n e) (tgtIx N n e))) ∧ ∀ es, es.all notStar = true → PGs X es (tGs X.K E (asgTs N sct n es) (tgtIxs N n es))
  | 0 => ⟨fun e => ⟨fun pins s σ H v u Q I r ⟨_, _, _, _, _, _, _, z, _⟩ => by cases z⟩, fun es _ => ⟨fun pins s σ H v u Q I r ⟨_, _, _, _, _, _, _, z, _⟩ => by cases z⟩⟩
  | n + 1 => by
    obtain ⟨ih1, ih2⟩ := tgt_ok T n
    refine ⟨fun e => ?_, fun es hs => ?_⟩
    · have bad : (∀ d ρ, asgT N sct (n + 1) e d ρ = none) → PG X e (tG X.K E (asgT N sct (n + 1) e) (tgtIx N (n + 1) e)) := fun hb => ⟨fun pins s σ H v u Q I r ⟨_, _, _, d, _, _, _, z, _⟩ => by rw [hb] at z; cases z⟩
      cases e with
      | Name x pos =>
        refine ⟨fun pins s σ H v u Q I r ⟨W, ρ, S, d, ρ', rel, rd, z, q⟩ => ?_⟩
        have z2 : (if locB sct x && decide (ixOf N x < ρ.length) then some (ρ.set (ixOf N x) (.val d)) else none) = some ρ' := z
        split at z2
        · rename_i hc
          cases z2
          obtain ⟨h1, h2⟩ := Bool.and_eq_true_iff.mp hc
          have hi : ixOf N x < ρ.length := of_decide_eq_true h2
          have hn : ixOf N x < N.length := by
            have l1 := rel.len
            have l2 := I.len
            rw [T.hN] at l2
            omega
          obtain ⟨hl, hf⟩ := T.loc x h1
          refine (pg_name (i := ixOf N x) (by rw [T.hN]; exact T.nd) (by rw [T.hN]; exact ix_ok hn) hl hf).run pins s σ H v u Q I r ?_
          exact q _ (rel.set hi rd) (by rw [List.length_set]) fun j hj => List.getElem?_set_ne fun z => hj (by rw [← z]; exact List.mem_singleton.mpr rfl)
        · cases z2
      | Tuple es kk pos =>
        by_cases hs : es.all notStar = true
        · obtain ⟨l1, l2⟩ := each_len (env := X.env) hs
          refine (pg_tup (k := kk) (pos := pos) T.calm (ih2 es hs) l1 l2).wk fun v σ H Q ⟨W, ρ, S, d, ρ', rel, rd, z, q⟩ => ?_
          cases d with
          | tup ds =>
            cases rd with
            | tup h r =>
              refine ⟨_, _, rfl, h, ?_, W, ρ, S, ds, ρ', rel, r, z, q⟩
              rw [← r.length]
              exact (asg_star (show asgTs N sct n es ds ρ = some ρ' from z)).2.symm
          | _ => cases z
        · refine bad fun d ρ => ?_
          cases d with
          | tup ds =>
            cases z : asgTs N sct n es ds ρ with
            | none => exact z
            | some ρ' => exact absurd (asg_star z).1 hs
          | _ => rfl
      | _ => exact bad fun _ _ => rfl
    · cases es with
      | nil =>
        refine pgs_nil.wk fun vs σ H Q ⟨W, ρ, S, ds, ρ', rel, rd, z, q⟩ => ?_
        cases rd with
        | nil =>
          have z2 : some ρ = some ρ' := z
          cases z2
          exact ⟨rfl, q σ rel rfl fun _ _ => rfl⟩
        | cons _ _ => cases z
      | cons e es =>
        have hq := Bool.and_eq_true_iff.mp (show (notStar e && es.all notStar) = true from hs)
        refine (pgs_cons (ih1 e) (ih2 es hq.2) (each_cons hq.1)).wk fun vs σ H Q ⟨W, ρ, S, ds, ρ', rel, rd, z, q⟩ => ?_
        cases rd with
        | nil => cases z
        | @cons d ds v vs r rs =>
          have z2 : (asgT N sct n e d ρ).bind (fun ρ1 => asgTs N sct n es ds ρ1) = some ρ' := z
          obtain ⟨ρ1, h3, h4⟩ := Option.bind_eq_some_iff.mp z2
          refine ⟨v, vs, rfl, W, ρ, S, d, ρ1, rel, r, h3, fun σ1 rel1 len1 out1 => ⟨W, ρ1, S, ds, ρ', rel1, rs, h4, fun σ2 rel2 len2 out2 => q σ2 rel2 (len2.trans len1) fun j hj => ?_⟩⟩
          have hj2 : j ∉ tgtIx N n e ++ tgtIxs N n es := hj
          rw [List.mem_append, not_or] at hj2
          rw [out2 j hj2.2, out1 j hj2.1]
end

/-! ### what is walked -/
section
variable {K : PySem.W.Frag} {W : Wd} {H : Hp} {a b : Addr} {ds es : List D} {vs us : List V}
theorem walk_tup (h : SqT K H a vs) (r : Reps K W H ds vs) : Walk K W H ds (Itt K a) := fun W1 H1 S1 P w =>
  ⟨fun i d e => by
    obtain ⟨v, hv, rv⟩ := r.get e
    have h1 := P.tup a vs h
    exact ⟨⟨vs, v, h1, hv⟩, fun x H2 ⟨e2, q⟩ => by
      subst e2
      have := q vs h1
      rw [hv] at this
      cases this
      exact ⟨W1, w.refl, w, rv.pre P⟩⟩, ⟨vs, P.tup a vs h, by rw [r.length]; exact Nat.le_refl _⟩⟩
theorem walk_str (z : Str) : Walk K W H (z.cps.toList.map fun c => D.str ⟨#[c]⟩) (Its z) := fun W1 H1 S1 P w =>
  ⟨fun i d e => by
    rw [List.getElem?_map] at e
    obtain ⟨c, hc, rfl⟩ := Option.map_eq_some_iff.mp e
    have hc2 : z.cps[i]? = some c := by simpa using hc
    refine ⟨?_, fun x H2 ⟨e2, c', hc', ex⟩ => ?_⟩
    · have := (Array.getElem?_eq_some_iff.mp hc2).1
      exact this
    · subst e2
      subst ex
      rw [hc2] at hc'
      cases hc'
      exact ⟨W1, w.refl, w, .str _⟩, by
    show z.cps.size ≤ _
    simp⟩
theorem walk_lst (f : W.Fz a) (h : Rd H a (.lst vs)) (r : Reps K W H ds vs) : Walk K W H ds (Itl K a) := fun W1 H1 S1 P w =>
  ⟨fun i d e => by
    obtain ⟨v, hv, rv⟩ := r.get e
    have h1 : SqL K H1 a vs := .inl (P.frz a _ f h)
    exact ⟨⟨vs, v, h1, hv⟩, fun x H2 ⟨e2, q⟩ => by
      subst e2
      have := q vs h1
      rw [hv] at this
      cases this
      exact ⟨W1, w.refl, w, rv.pre P⟩⟩, ⟨vs, .inl (P.frz a _ f h), by rw [r.length]; exact Nat.le_refl _⟩⟩
theorem walk_range {lo : Int} {n : Nat} : Walk K W H ((List.range n).map fun (k : Nat) => D.int (lo + (k : Int))) (Itr lo n) := fun W1 H1 S1 P w =>
  ⟨fun i d e => by
    rw [List.getElem?_map] at e
    cases q : (List.range n)[i]? with
    | none => rw [q] at e; cases e
    | some k =>
      rw [q] at e
      cases e
      obtain ⟨hi, hk⟩ := List.getElem?_eq_some_iff.mp q
      rw [List.getElem_range] at hk
      rw [List.length_range] at hi
      subst hk
      exact ⟨hi, fun x H2 ⟨e2, e3⟩ => by
        subst e2 e3
        exact ⟨W1, w.refl, w, .int _⟩⟩, by
    show n ≤ _
    rw [List.length_map, List.length_range]
    exact Nat.le_refl _⟩
theorem enumD_get : ∀ {ds : List D} {k i : Nat}, (enumD k ds)[i]? = (ds[i]?).map fun d => D.tup [.int ((k + i : Nat) : Int), d]
  | [], _, _ => rfl
  | d :: ds, k, 0 => rfl
  | d :: ds, k, i + 1 => by
    show (enumD (k + 1) ds)[i]? = _
    rw [enumD_get]
    show _ = (ds[i]?).map _
    rw [show k + 1 + i = k + (i + 1) by omega]
theorem enumD_len : ∀ {ds : List D} {k : Nat}, (enumD k ds).length = ds.length
  | [], _ => rfl
  | d :: ds, k => by
    show (enumD (k + 1) ds).length + 1 = ds.length + 1
    rw [enumD_len]
/-- the tuple at a, its items in new pairs with their numbers -/
def Iten (K : PySem.W.Frag) (a : Addr) : It :=
  ⟨fun i H => ∃ (xs : List V) (x : V), SqT K H a xs ∧ xs[i]? = some x, fun i H v H' => ∃ T x, v = .ref T ∧ H T = none ∧ H' = upd H T (.tup [.int (i : Nat), x]) ∧ ∀ xs, SqT K H a xs → xs[i]? = some x,
    fun i H => ∃ xs : List V, SqT K H a xs ∧ xs.length = i⟩
theorem walk_enum (h : SqT K H a vs) (r : Reps K W H ds vs) : Walk K W H (enumD 0 ds) (Iten K a) := fun W1 H1 S1 P w => by
  have h1 := P.tup a vs h
  refine ⟨fun i d e => ?_, ⟨vs, h1, by rw [enumD_len, r.length]⟩⟩
  rw [enumD_get] at e
  obtain ⟨d0, e0, e1⟩ := Option.map_eq_some_iff.mp e
  subst e1
  obtain ⟨v, hv, rv⟩ := r.get e0
  refine ⟨⟨vs, v, h1, hv⟩, fun x H2 ⟨T, y, e1, e2, e3, e4⟩ => ?_⟩
  subst e1 e3
  have f1 := e4 vs h1
  rw [hv] at f1; cases f1
  have L := le_new (K := K) w e2 (.tup [.int (i : Nat), v]) W1 rfl rfl rfl (fun _ h => h) (fun _ h => .inl h)
  refine ⟨W1, L, ws_new w e2 (.tup [.int (i : Nat), v]) W1 rfl rfl rfl (fun _ h => h) (fun _ h => .inl h) (fun xs e => by cases e) (fun xs e => by cases e; rw [size_line]; exact (by decide : 2 ≤ LINE)) (fun _ _ e => by cases e), ?_⟩
  rw [Nat.zero_add]
  exact .tup (SqT.of upd_same) (.cons (.int _) (.cons ((rv.pre P).pre (L.pre w)) .nil))
theorem walk_zip (h : SqT K H a vs) (r : Reps K W H ds vs) (h' : SqT K H b us) (r' : Reps K W H es us) : Walk K W H ((ds.zip es).map fun p => D.tup [p.1, p.2]) (RZ.ItzT K a b) := fun W1 H1 S1 P w => by
  have h1 := P.tup a vs h
  have h2 := P.tup b us h'
  refine ⟨fun i d e => ?_, ⟨vs, us, h1, h2, ?_⟩⟩
  · rw [List.getElem?_map] at e
    cases q : (ds.zip es)[i]? with
    | none => rw [q] at e; cases e
    | some p =>
      rw [q] at e
      cases e
      obtain ⟨q1, q2⟩ := List.getElem?_zip_eq_some.mp q
      obtain ⟨v, hv, rv⟩ := r.get q1
      obtain ⟨u, hu, ru⟩ := r'.get q2
      refine ⟨⟨vs, us, v, u, h1, h2, hv, hu⟩, fun x H2 ⟨T, x1, y1, e1, e2, e3, e4, e5⟩ => ?_⟩
      subst e1 e3
      have f1 := e4 vs h1
      rw [hv] at f1; cases f1
      have f2 := e5 us h2
      rw [hu] at f2; cases f2
      have L := le_new (K := K) w e2 (.tup [v, u]) W1 rfl rfl rfl (fun _ h => h) (fun _ h => .inl h)
      refine ⟨W1, L, ws_new w e2 (.tup [v, u]) W1 rfl rfl rfl (fun _ h => h) (fun _ h => .inl h) (fun xs e => by cases e) (fun xs e => by cases e; rw [size_line]; exact (by decide : 2 ≤ LINE)) (fun _ _ e => by cases e), ?_⟩
      exact .tup (SqT.of upd_same) (.cons ((rv.pre P).pre (L.pre w)) (.cons ((ru.pre P).pre (L.pre w)) .nil))
  · rw [List.length_map, List.length_zip, r.length, r'.length]
    omega
end

section
variable {X : Cx} {g : G} {C : Call} {ev : Str → Value} {E : Ent} {N : List Str} {sc : Scope} {Xw : Str → L2.St → Hp → Prop} {k : Nat} {fa fb : Ev → Sto → R D} {tg : Expr}
/-- enumerate(v) begins -/
theorem meets_enum1 {v : Value} {o : Obj} {Hh : Heap → Prop} (B : Begins v o Hh) : Meets (Builtin.«enumerate.__new__» ⟨[.type "enumerate", v], []⟩) (fun _ R s => Hh s.heap ∧
      R (.ok (.ret (.ref (s.heap.push o).objs.size))) { s with heap := (s.heap.push o).push { cls := .type "enumerate", data := .fields #[.none, .bool false, .ref s.heap.objs.size, rawInt 0, .none, .none] } }) :=
  .of_wp fun prog w A R s h => by
    obtain ⟨hp, g, d, tk, os⟩ := s
    obtain ⟨h1, h⟩ := h
    have hsub := sub_enumerate
    have it_ : ∀ {A' : Around} {E : Value → Shared → Prop} {Q : Value → Shared → Prop}, Q (.ref hp.objs.size) ⟨hp.push o, g, d, tk, os⟩ → wpAny (model prog w) A' (pyIter v) Q E ⟨hp, g, d, tk, os⟩ := fun q => B.iter prog w _ _ ⟨hp, g, d, tk, os⟩ _ h1 q
    wp_walk using it_
    refine wpAny_stack_any fun st => wpAny_pure ?_
    split
    · rename_i c _ _ _ _ _
      cases (c == Value.type "enumerate")
      · wp_walk using it_
        exact ⟨_, rfl, h⟩
      · wp_walk using it_
        exact ⟨_, rfl, h⟩
    · wp_walk using it_
      exact ⟨_, rfl, h⟩
theorem call_enum1 {prog : Program} {w : World} {A : Around} {Ex : Value → Shared → Prop} {s : Shared} {v : Value} {o : Obj} {Hh : Heap → Prop} {Q : Value → Shared → Prop} (B : Begins v o Hh) (h1 : Hh s.heap)
    (h : ∀ h', IsEnum h' (s.heap.objs.size + 1) s.heap.objs.size 0 .none → h'.get? s.heap.objs.size = some o → (∀ b u, s.heap.get? b = some u → h'.get? b = some u) → Q (.ref (s.heap.objs.size + 1)) { s with heap := h' }) :
    wpAny (model prog w) A (call (.type "enumerate") [v]) Q Ex s := by
  refine callType_new F.called_enumerate (by decide) (F.typeCall_enumerate_1 _) (F.newCall_enumerate_1 _) (fun obj => F.args_object_init_2 obj _) F.entry_enumerate_new (meets_enum1 B) ⟨h1, ?_⟩
  have one : (s.heap.push o).objs.size = s.heap.objs.size + 1 := Heap.size_push ..
  show _ ∧ _
  rw [one]
  have new : ((s.heap.push o).push { cls := .type "enumerate", data := .fields #[.none, .bool false, .ref s.heap.objs.size, rawInt 0, .none, .none] }).get? (s.heap.objs.size + 1) = some { cls := .type "enumerate", data := .fields #[.none, .bool false, .ref s.heap.objs.size, rawInt 0, .none, .none] } := by
    rw [← one]
    exact Heap.get?_push_size _ rfl
  exact ⟨⟨_, new, rfl⟩, h _ new (Heap.get?_push_of_some _ (Heap.get?_push_size _ B.free)) fun b u q => Heap.get?_push_of_some _ (Heap.get?_push_of_some _ q)⟩
theorem turn_enumT {P : Program} {w : World} {K : PySem.W.Frag} {elts : List Expr} {kk : Nat} {tpos : Pos} (a e it : Addr) :
    Turn P w K (.Tuple elts kk tpos) (Iten K a) [e, it] e (fun i h => (∃ old, IsEnum h e it ((i : Nat) : Int) old) ∧ h.IsTupleIter it a i ∧ e ≠ it ∧ a ≠ e ∧ a ≠ it) where
  mem := List.mem_cons_self ..
  obj := fun i h ⟨⟨old, he⟩, ⟨o, ho, _, hd⟩, _⟩ b hb => by
    rcases List.mem_cons.mp hb with z | z
    · rw [z]; exact ⟨_, he, fun v q => nomatch q⟩
    · rw [List.mem_singleton.mp z]; exact ⟨o, ho, fun v q => by rw [hd] at q; cases q⟩
  keep := fun i h h' ⟨⟨old, he⟩, hi, n1, n2, n3⟩ k => ⟨⟨old, k e (by simp) _ he⟩, hi.at fun o q => k it (by simp) o q, n1, n2, n3⟩
  item := by
    intro X hP hw hK hc i pins s σ H Ex I hf st hg
    subst hP hw hK
    obtain ⟨⟨old, he⟩, hit, n1, n2, n3⟩ := st
    obtain ⟨xs, x, hq, hx⟩ := hg
    obtain ⟨its, rv, p, hz⟩ := I.tuple hq
    obtain ⟨u, hu, ru⟩ := rv.get hx
    have le_ : e < s.heap.objs.size := Heap.lt_size he
    have li_ : it < s.heap.objs.size := by obtain ⟨_, q, _⟩ := hit; exact Heap.lt_size q
    have hlt : i < its.toArray.size := by
      have := (List.getElem?_eq_some_iff.mp hu).1
      simpa using this
    refine wpAny_pyNext_enum_itemC (Draws.tuple (A := X.A.in1) (I.ok.hd hc) it a n3 its.toArray) he ⟨hit, p⟩ hlt n1 (by simp [n1, Ne.symm n2]) fun u2 h' tk hu2 ho hs' hT hsz hk => ?_
    have e2 : u2 = u := by
      have q : its.toArray[i]? = some u2 := hu2
      rw [List.getElem?_toArray, hu] at q
      exact (Option.some.inj q).symm
    subst e2
    refine ⟨_, rfl, wpAny_letOwnedTupleGo_enum (s := { s with heap := h', toks := tk + 1 }) ho fun h'' he' sb => ?_⟩
    have hT2 : h''.get? s.heap.objs.size = some { cls := .type "tuple", data := .seq #[.int i tk, u2] } := (sb.2 _ (Nat.ne_of_gt le_)).trans hT
    have new : ObjOk X.prog X.w (upd H s.heap.objs.size (.tup [.int (i : Nat), x])) h'' s.heap.objs.size (.tup [.int (i : Nat), x]) :=
      ⟨by show 2 ≤ sizeLine; decide, [.int i tk, u2], .cons ⟨_, rfl⟩ (.cons ru .nil), ⟨_, hT2, rfl, _, rfl⟩⟩
    have I1 : Inv X pins σ (upd H s.heap.objs.size (.tup [.int (i : Nat), x])) { s with heap := h'', toks := tk + 1 } :=
      I.turnedNew (ch := [e, it]) (fun b ob hb q => (sb.2 b (fun z => hb (by simp [z]))).trans (hk b ob (fun z => hb (by simp [z])) (fun z => hb (by simp [z])) q)) hf (Nat.le_refl _) new
    refine ⟨.ref s.heap.objs.size, _, I1, rfl, ⟨_, x, rfl, I.hok.fresh (Nat.le_refl _), rfl, fun ys hy => by rw [I.tuple_inj hy hq]; exact hx⟩, ⟨⟨u2, ?_⟩, hs'.1.at fun o q => (sb.2 it (Ne.symm n1)).trans q, n1, n2, n3⟩, fun b hb => ?_⟩
    · have e1 : ((i + 1 : Nat) : Int) = (i : Int) + 1 := by omega
      rw [e1]; exact he'
    · have hb' : b < s.heap.objs.size := by
        rcases List.mem_cons.mp hb with z | z
        · rw [z]; exact le_
        · rw [List.mem_singleton.mp z]; exact li_
      rw [upd_ne (Nat.ne_of_lt hb')]
      exact (hf b hb).1
  done := by
    intro X hP hw hK hc i pins s σ H Ex I hf st hg
    subst hP hw hK
    obtain ⟨⟨old, he⟩, hit, n1, n2, n3⟩ := st
    obtain ⟨xs, hq, hx⟩ := hg
    obtain ⟨its, rv, p, hz⟩ := I.tuple hq
    have sz : its.toArray.size = i := by rw [List.size_toArray, ← rv.length]; exact hx
    obtain ⟨f0, f1, f2, f3, f4, f5⟩ := hf it (by simp)
    refine wpAny_pyNext_enum_endD (Draws.tuple (A := X.A.in1) (I.ok.hd hc) it a n3 its.toArray) he (by rw [sz]; exact ⟨hit, p⟩) fun h' eb => ⟨rfl, I.turned (t' := s.toks) (fun b o hb q => eb b o hb q) f0 f1 f3 f4 f5⟩
  self := fun A i s Q Ex ⟨⟨_, he⟩, _⟩ h => wpAny_pyIter_enum he h
theorem pi_enumT {e : Expr} {ta : TA} {p pos tpos : Pos} {elts : List Expr} {kk : Nat} (hg : Gl X "enumerate") (hm : X.mg "enumerate" = none) (ha : PA X [e] ta) (hs : starEach [e] X.env = [(false, eval e X.env)]) :
    PI X (.Tuple elts kk tpos) (.Call (.Name "enumerate" p) [e] [] pos) (fun σ H R => ta σ H fun vs H1 => ∃ a xs, vs = [.ref a] ∧ SqT X.K H1 a xs ∧ R (Iten X.K a) H1) := by
  constructor
  intro pins s σ H R I h
  refine Call_ (ld_blt I hg hm boot_enumerate (PyProof.Rows.callWith_type1 (thn (ha.run pos pins s σ H _ I h) ?_) hs rfl))
  rintro us s1 ⟨vs, H1, I1, r1, a, xs, rfl, hq, q⟩
  cases r1 with
  | cons r rr =>
    cases rr
    cases r
    obtain ⟨its, rv, p', hz⟩ := I1.tuple hq
    have p2 : s1.heap.IsTuple a its.toArray := p'
    have la : a < s1.heap.objs.size := by obtain ⟨_, q, _⟩ := p2; exact Heap.lt_size q
    refine call_enum1 (begins_tuple a its.toArray) p2 fun h' he hit hk => wpAny_pyIter_enum he ?_
    have I2 : Inv X pins σ H1 { s1 with heap := h' } := I1.kept (t' := s1.toks) hk
    refine ⟨s1.heap.objs.size + 1, [s1.heap.objs.size + 1, s1.heap.objs.size], _, _, H1, rfl, I2, turn_enumT a (s1.heap.objs.size + 1) s1.heap.objs.size, ⟨⟨.none, he⟩, ⟨_, hit, rfl, rfl⟩, Nat.succ_ne_self _, Nat.ne_of_lt (Nat.lt_succ_of_lt la), Nat.ne_of_lt la⟩, fun b hb => ?_, q⟩
    have hle : s1.heap.objs.size ≤ b := by
      rcases List.mem_cons.mp hb with z | z
      · rw [z]; exact Nat.le_succ _
      · rw [List.mem_singleton.mp z]; exact Nat.le_refl _
    exact I1.fpOk hle (I1.hok.fresh hle)
theorem den_enum {a : Expr} {elts : List Expr} {kk : Nat} {tpos : Pos} {fs : Ev → Sto → R (List D)} {p pos : Pos} (c : Cok X g C ev E N sc Xw k) (hg : glB sc "enumerate" = true) (hb : g.bi "enumerate" = true) (hn : notStar a = true) (h : PA X [a] (tA X.K E Xw fs)) :
    PI X (.Tuple elts kk tpos) (.Call (.Name "enumerate" p) [a] [] pos) (tI X.K E Xw fun ρ S => (fs ρ S).bind enumA) := by
  refine (pi_enumT (glOk hg c.hsc) (c.bis _ hb) h (by rw [star_ok hn] <;> rfl)).wk fun σ H Q ⟨W, ρ, S, rel, res⟩ => ⟨W, ρ, S, rel, (Res.bind res).mono fun ds S1 W1 H1 l1 w1 pp vs rv => ?_⟩
  cases rv with
  | nil => exact False.elim pp
  | @cons d ds v vs r rs =>
    cases rs with
    | cons _ _ => cases d <;> exact False.elim pp
    | nil =>
      cases r with
      | tup h1 q1 => exact ⟨_, _, rfl, h1, pp W1 H1 w1.refl w1 _ (walk_enum h1 q1)⟩
      | _ => exact False.elim pp
/-- a list or a tuple that is walked -/
theorem pi_seq {l : Expr} {tl : TE} (hl : PE X l tl) : PI X tg l (fun σ H R => tl σ H fun x H1 => ∃ a, x = .ref a ∧ ((∃ xs, SqL X.K H1 a xs) ∧ R (Itl X.K a) H1 ∨ (∃ xs, SqT X.K H1 a xs) ∧ R (Itt X.K a) H1)) := by
  refine ⟨fun pins s σ H R I h => ?_⟩
  refine thn (hl.run pins s σ H _ I h) fun v s1 ⟨x, H1, I1, r1, q1⟩ => ?_
  obtain ⟨a, e, q1⟩ := q1
  subst e
  cases r1
  have fr : ∀ b ∈ [s1.heap.objs.size], FpOk X pins H1 b := fun b hb => by
    have e : b = s1.heap.objs.size := by simpa using hb
    subst e
    exact I1.fpOk (Nat.le_refl _) (I1.hok.fresh (Nat.le_refl _))
  rcases q1 with ⟨⟨xs, hq⟩, q⟩ | ⟨⟨xs, hq⟩, q⟩
  · obtain ⟨its, rv, p, hz⟩ := I1.list hq
    refine wpAny_pyIter_list p.isList ?_
    exact ⟨s1.heap.objs.size, [s1.heap.objs.size], _, _, H1, rfl, I1.kept (t' := s1.toks) fun b o e => Heap.get?_push_of_some _ e, turn_list a _, ⟨_, Heap.get?_push_size _ rfl, rfl, rfl⟩, fr, q⟩
  · obtain ⟨its, rv, p, hz⟩ := I1.tuple hq
    refine wpAny_pyIter_tuple (show s1.heap.IsTuple a its.toArray from p) ?_
    exact ⟨s1.heap.objs.size, [s1.heap.objs.size], _, _, H1, rfl, I1.kept (t' := s1.toks) fun b o e => Heap.get?_push_of_some _ e, turn_tuple a _, ⟨_, Heap.get?_push_size _ rfl, rfl, rfl⟩, fr, q⟩
/-- .., or a text -/
theorem pi_seqS {l : Expr} {tl : TE} (hl : PE X l tl) : PI X tg l (fun σ H R => tl σ H fun x H1 => (∃ a, x = .ref a ∧ ((∃ xs, SqL X.K H1 a xs) ∧ R (Itl X.K a) H1 ∨ (∃ xs, SqT X.K H1 a xs) ∧ R (Itt X.K a) H1)) ∨ ∃ z, x = .str z ∧ R (Its z) H1) := by
  refine ⟨fun pins s σ H R I h => ?_⟩
  refine thn (hl.run pins s σ H _ I h) fun v s1 ⟨x, H1, I1, r1, q1⟩ => ?_
  rcases q1 with ⟨a, e, q1⟩ | ⟨z, e, q⟩
  · subst e
    cases r1
    have fr : ∀ b ∈ [s1.heap.objs.size], FpOk X pins H1 b := fun b hb => by
      have e : b = s1.heap.objs.size := by simpa using hb
      subst e
      exact I1.fpOk (Nat.le_refl _) (I1.hok.fresh (Nat.le_refl _))
    rcases q1 with ⟨⟨xs, hq⟩, q⟩ | ⟨⟨xs, hq⟩, q⟩
    · obtain ⟨its, rv, p, hz⟩ := I1.list hq
      refine wpAny_pyIter_list p.isList ?_
      exact ⟨s1.heap.objs.size, [s1.heap.objs.size], _, _, H1, rfl, I1.kept (t' := s1.toks) fun b o e => Heap.get?_push_of_some _ e, turn_list a _, ⟨_, Heap.get?_push_size _ rfl, rfl, rfl⟩, fr, q⟩
    · obtain ⟨its, rv, p, hz⟩ := I1.tuple hq
      refine wpAny_pyIter_tuple (show s1.heap.IsTuple a its.toArray from p) ?_
      exact ⟨s1.heap.objs.size, [s1.heap.objs.size], _, _, H1, rfl, I1.kept (t' := s1.toks) fun b o e => Heap.get?_push_of_some _ e, turn_tuple a _, ⟨_, Heap.get?_push_size _ rfl, rfl, rfl⟩, fr, q⟩
  · subst e
    obtain ⟨t, rfl⟩ := r1
    cases ha : z.cps.all (· < 128)
    · exact wpAny_pyIter_wide ha (pi_one (tk := s1.toks) I1 _ (turn_str _ z t "str_iterator" (.inr rfl)) ⟨_, Heap.get?_push_size _ rfl, rfl, rfl⟩ q)
    · exact wpAny_pyIter_ascii ha (pi_one (tk := s1.toks) I1 _ (turn_str _ z t "str_ascii_iterator" (.inl rfl)) ⟨_, Heap.get?_push_size _ rfl, rfl, rfl⟩ q)
theorem den_seq {l : Expr} (h : PE X l (tE X.K E Xw fa)) : PI X tg l (tI X.K E Xw fun ρ S => (fa ρ S).bind fun d S1 => R.opt (itemsD d) S1) := by
  refine (pi_seqS h).wk fun σ H Q ⟨W, ρ, S, rel, res⟩ => ⟨W, ρ, S, rel, (Res.bind res).mono fun d S1 W1 H1 l1 w1 p v rv => ?_⟩
  obtain ⟨ds, e, f⟩ := p.opt
  have f1 := f W1 H1 w1.refl w1
  cases rv with
  | tup h r => cases e; exact .inl ⟨_, rfl, .inr ⟨⟨_, h⟩, f1 _ (walk_tup h r)⟩⟩
  | lst fz h r => cases e; exact .inl ⟨_, rfl, .inl ⟨⟨_, .inl h⟩, f1 _ (walk_lst fz h r)⟩⟩
  | str z => cases e; exact .inr ⟨_, rfl, f1 _ (walk_str z)⟩
  | _ => cases e
theorem den_range1 {a : Expr} {fs : Ev → Sto → R (List D)} {p pos : Pos} (c : Cok X g C ev E N sc Xw k) (hg : glB sc "range" = true) (hb : g.bi "range" = true) (hn : notStar a = true) (h : PA X [a] (tA X.K E Xw fs)) :
    PI X tg (.Call (.Name "range" p) [a] [] pos) (tI X.K E Xw fun ρ S => (fs ρ S).bind rangeA1) := by
  refine (pi_range1 (glOk hg c.hsc) (c.bis _ hb) h (by rw [star_ok hn] <;> rfl)).wk fun σ H Q ⟨W, ρ, S, rel, res⟩ => ⟨W, ρ, S, rel, (Res.bind res).mono fun ds S1 W1 H1 l1 w1 pp vs rv => ?_⟩
  cases rv with
  | nil => exact False.elim pp
  | @cons d ds v vs r rs =>
    cases rs with
    | nil =>
      cases r with
      | int j =>
        obtain ⟨is, e, f⟩ := Res.opt (show Res X.K E Xw W1 H1 ρ σ (R.opt (rangeD 0 j) S1) _ from pp)
        unfold rangeD at e
        split at e
        · rename_i hc
          cases e
          refine ⟨j, rfl, hc.2.2.1, hc.2.2.2.1, ?_⟩
          have e0 : (j - 0).toNat = j.toNat := by rw [Int.sub_zero]
          have q := f W1 H1 w1.refl w1 (Itr 0 j.toNat)
          rw [e0] at q
          exact q walk_range
        · cases e
      | _ => exact False.elim pp
    | cons _ _ => cases d <;> exact False.elim pp
theorem den_range2 {a b : Expr} {fs : Ev → Sto → R (List D)} {p pos : Pos} (c : Cok X g C ev E N sc Xw k) (hg : glB sc "range" = true) (hb : g.bi "range" = true) (hn : notStar a = true) (hn2 : notStar b = true) (h : PA X [a, b] (tA X.K E Xw fs)) :
    PI X tg (.Call (.Name "range" p) [a, b] [] pos) (tI X.K E Xw fun ρ S => (fs ρ S).bind rangeA2) := by
  refine (pi_range2 (glOk hg c.hsc) (c.bis _ hb) h (by rw [star_ok hn, star_ok hn2] <;> rfl) (by rw [star_ok hn2] <;> rfl)).wk fun σ H Q ⟨W, ρ, S, rel, res⟩ => ⟨W, ρ, S, rel, (Res.bind res).mono fun ds S1 W1 H1 l1 w1 pp vs rv => ?_⟩
  cases rv with
  | nil => exact False.elim pp
  | @cons d ds v vs r rs =>
    cases rs with
    | nil => cases d <;> exact False.elim pp
    | @cons d2 ds v2 vs r2 rs =>
      cases rs with
      | cons _ _ => cases d <;> cases d2 <;> exact False.elim pp
      | nil =>
        cases r with
        | int i =>
          cases r2 with
          | int j =>
            obtain ⟨is, e, f⟩ := Res.opt (show Res X.K E Xw W1 H1 ρ σ (R.opt (rangeD i j) S1) _ from pp)
            unfold rangeD at e
            split at e
            · rename_i hc
              cases e
              exact ⟨i, j, rfl, ⟨hc.1, hc.2.1, hc.2.2.1, hc.2.2.2.1⟩, f W1 H1 w1.refl w1 _ walk_range⟩
            · cases e
          | _ => exact False.elim pp
        | _ => exact False.elim pp
theorem den_zip {a b : Expr} {elts : List Expr} {kk : Nat} {tpos : Pos} {fs : Ev → Sto → R (List D)} {p pos : Pos} (c : Cok X g C ev E N sc Xw k) (hg : glB sc "zip" = true) (hb : g.bi "zip" = true) (hn : notStar a = true) (hn2 : notStar b = true) (h : PA X [a, b] (tA X.K E Xw fs)) :
    PI X (.Tuple elts kk tpos) (.Call (.Name "zip" p) [a, b] [] pos) (tI X.K E Xw fun ρ S => (fs ρ S).bind zipA) := by
  refine (RZ.pi_zipA (glOk hg c.hsc) (c.bis _ hb) h (star_ok hn) (by rw [star_ok hn2] <;> rfl)).wk fun σ H Q ⟨W, ρ, S, rel, res⟩ => ⟨W, ρ, S, rel, (Res.bind res).mono fun ds S1 W1 H1 l1 w1 pp vs rv => ?_⟩
  cases rv with
  | nil => exact False.elim pp
  | @cons d ds v vs r rs =>
    cases rs with
    | nil => exact False.elim pp
    | @cons d2 ds v2 vs r2 rs =>
      cases rs with
      | cons _ _ => exact False.elim pp
      | nil =>
        obtain ⟨is, e, f⟩ := Res.opt (show Res X.K E Xw W1 H1 ρ σ (R.opt (zipD d d2) S1) _ from pp)
        cases r with
        | tup h1 q1 =>
          cases r2 with
          | tup h2 q2 =>
            cases e
            exact ⟨_, _, _, _, rfl, .inr ⟨h1, h2, f W1 H1 w1.refl w1 _ (walk_zip h1 q1 h2 q2)⟩⟩
          | _ => cases e
        | _ => cases e

/-! ### comprehensions -/
theorem den_ifs0 : PTs X [] (tBl X.K E Xw fun _ S => .ok true S) := ⟨fun pins s σ H Q I ⟨W, ρ, S, rel, res⟩ => pts_nil.run pins s σ H Q I (res W H rel.ws.refl rel.ws)⟩
theorem den_ifs1 {c : Expr} {t : TT} (h : PT X c t) : PTs X [c] t := pts_one h
theorem lc_red {Xe : Str → L2.St → Hp → Prop} {fi : Ev → Sto → R (List D)} {ftg : D → Ev → Option Ev} {fc : Ev → Sto → R Bool} {fe : Ev → Sto → R D} {own : List (Str × Nat)} {ix : List Nat} (hix : ∀ i ∈ ix, i ∈ own.map (·.2))
    {σ : L2.St} {H : Hp} {Q : VK} (hXe : ∀ cc σ2 H', Xw cc σ H' → Xe cc σ2 H') (h : tE X.K E Xw (fun ρ S => (fi ρ S).bind fun ds S1 => if ds.length ≤ LINE then
            (compL (fun d S2 => lcStep fc fe S2 (ftg d (wipeE ρ (own.map (·.2))))) ds [] S1).bind fun ys S5 => .ok (.lst ys) S5 else .bad) σ H Q) :
    tLc (tI X.K E Xw fi) (tG X.K E ftg ix) (tBl X.K E (fun _ _ _ => False) fc) (tE X.K E Xe fe) (own.map (·.2)) σ H Q := by
  obtain ⟨W, ρ, S, rel, res⟩ := h
  refine ⟨W, ρ, S, rel, (Res.bind res).mono fun ds S1 W1 H1 l1 w1 p J wk D hD => ?_⟩
  have rel1 := rel.step l1 w1
  split at p
  · rename_i hz
    generalize hstep : (fun (d : Lw.D) (S2 : Sto) => lcStep fc fe S2 (ftg d (wipeE ρ (own.map (·.2))))) = step at p
    refine ⟨fun i m H' => m = ds.length - i ∧ i ≤ ds.length ∧ ∃ W' S' acc vacc, Le W1 H1 W' H' ∧ WS X.K W' H' S' ∧ Held X.K W' H' D acc vacc ∧ acc.length ≤ i ∧
      Res X.K E Xw W1 H1 ρ σ ((compL step (ds.drop i) acc S').bind fun ys S5 => R.ok (Lw.D.lst ys) S5) (fun d _ W' H' => ∀ v, Rep X.K W' H' d v → Q v H'), ⟨ds.length, by omega, Nat.zero_le _, W1, S1, [], [], ?_, ?_, ⟨upd_same, .nil, fun f => w1.fz D f hD, fun j hj z => w1.some hj (by rw [z]; exact hD)⟩, Nat.le_refl _, p⟩, ?_⟩
    · exact le_new (K := X.K) w1 hD (.lst []) W1 rfl rfl rfl (fun _ h => h) (fun _ h => .inl h)
    · exact ws_new w1 hD (.lst []) W1 rfl rfl rfl (fun _ h => h) (fun _ h => .inl h) (fun xs e => by cases e; exact Nat.zero_le _) (fun xs e => by cases e) (fun _ _ e => by cases e)
    · rintro i m H' ⟨rfl, hile, W', S', acc, vacc, l, w, hd, hlen, r⟩
      obtain ⟨item, stop⟩ := wk W' H' S' (l.pre w1) w
      by_cases hlt : i < ds.length
      · obtain ⟨go, yl⟩ := item i ds[i] (List.getElem?_eq_getElem hlt)
        refine .inr ⟨go, fun H'' => i + 1 ≤ ds.length ∧ ∃ W' S' acc vacc, Le W1 H1 W' H'' ∧ WS X.K W' H'' S' ∧ Held X.K W' H'' D acc vacc ∧ acc.length ≤ i + 1 ∧
          Res X.K E Xw W1 H1 ρ σ ((compL step (ds.drop (i + 1)) acc S').bind fun ys S5 => R.ok (Lw.D.lst ys) S5) (fun d _ W' H' => ∀ v, Rep X.K W' H' d v → Q v H'), fun H'' h => ⟨ds.length - (i + 1), by omega, rfl, h⟩, fun x H2 y => ?_⟩
        obtain ⟨W2, l2, w2, rx⟩ := yl x H2 y
        have hd2 := hd.le w l2
        have rel2 := (rel1.step (l.trans l2) w2).wipe (own.map (·.2))
        rw [List.drop_eq_getElem_cons hlt] at r
        have r2 : Res X.K E Xw W1 H1 ρ σ (((step ds[i] S').bind fun o S1 => match o with
          | some y => compL step (ds.drop (i + 1)) (acc ++ [y]) S1
          | none => compL step (ds.drop (i + 1)) acc S1).bind fun ys S5 => R.ok (Lw.D.lst ys) S5) (fun d _ W' H' => ∀ v, Rep X.K W' H' d v → Q v H') := r
        rw [← hstep] at r2
        dsimp only at r2
        cases hf : ftg ds[i] (wipeE ρ (own.map (·.2))) with
        | none => rw [hf] at r2; exact False.elim r2
        | some ρ1 =>
          rw [hf] at r2
          rw [show lcStep fc fe S' (some ρ1) = ((fc ρ1 S').noe.bind fun t S3 => if t then (fe ρ1 S3).bind fun y S4 => R.ok (some y) S4 else R.ok none S3) from rfl] at r2
          refine ⟨W2, _, S', ds[i], ρ1, rel2, rx, hf, fun σ2 relx len2 out2 => ⟨wipe_eq hix len2 out2, W2, ρ1, S', relx, ?_⟩⟩
          cases hc : fc ρ1 S' with
          | bad => rw [hc] at r2; exact False.elim r2
          | err cc S3 => rw [hc] at r2; exact False.elim r2
          | ok t S3 =>
            rw [hc] at r2
            intro W3 H3 l3 w3
            have hd3 := hd2.le w2 l3
            cases t with
            | false =>
              refine iteF ?_
              have r3 : Res X.K E Xw W1 H1 ρ σ ((compL step (ds.drop (i + 1)) acc S3).bind fun ys S5 => R.ok (Lw.D.lst ys) S5) (fun d _ W' H' => ∀ v, Rep X.K W' H' d v → Q v H') := by rw [← hstep]; exact r2
              exact ⟨hlt, W3, S3, acc, vacc, (l.trans l2).trans l3, w3, hd3, by omega, r3⟩
            | true =>
              refine iteT ?_
              refine ⟨W3, ρ1, S3, relx.step l3 w3, ?_⟩
              have r3 : Res X.K E Xw W1 H1 ρ σ ((((fe ρ1 S3).bind fun y S4 => .ok (some y) S4).bind fun o S1 => match o with
                | some y => compL step (ds.drop (i + 1)) (acc ++ [y]) S1
                | none => compL step (ds.drop (i + 1)) acc S1).bind fun ys S5 => R.ok (Lw.D.lst ys) S5) (fun d _ W' H' => ∀ v, Rep X.K W' H' d v → Q v H') := by rw [← hstep]; exact r2
              cases hee : fe ρ1 S3 with
              | bad => rw [hee] at r3; exact False.elim r3
              | err cc S4 =>
                rw [hee] at r3
                exact fun W4 H4 l4 w4 => hXe _ _ _ (r3 W4 H4 (((l.trans l2).trans l3).trans l4) w4)
              | ok y S4 =>
                rw [hee] at r3
                intro W4 H4 l4 w4 v rv
                have hd4 := hd3.le w3 l4
                have lv : vacc.length ≤ i := by rw [← hd4.reps.length]; exact hlen
                have lz : vacc.length < sizeLine := by rw [size_line]; omega
                have lz2 : (vacc ++ [v]).length ≤ sizeLine := by rw [List.length_append]; exact lz
                refine ⟨vacc, hd4.at_, lz, hlt, W4, S4, acc ++ [y], vacc ++ [v], le_own (((l.trans l2).trans l3).trans l4) hD, own_ws w4 hd4 lz2, ⟨upd_same, ?_, hd4.nf, hd4.ns⟩, by rw [List.length_append, List.length_singleton]; omega, r3⟩
                exact (hd4.reps.append (Reps.one rv)).pre (own_pre hd4)
      · have e : i = ds.length := by omega
        subst e
        refine .inl ⟨stop, ?_⟩
        rw [List.drop_length] at r
        have r2 := (show Res X.K E Xw W1 H1 ρ σ (.ok (.lst acc) S') (fun d _ W' H' => ∀ v, Rep X.K W' H' d v → Q v H') from r) (W'.add D) H' (le_add l hD) (ws_add w (by rw [hd.at_]; exact fun z => by cases z) hd.ns)
        exact r2 _ (.lst (.inr rfl) (.inl hd.at_) (hd.reps.pre pre_add))
  · exact False.elim p
theorem den_lc {elt iter : Expr} {ifs : List Expr} {scope : Scope} {pos : Pos} {fi : Ev → Sto → R (List D)} {ftg : D → Ev → Option Ev} {fc : Ev → Sto → R Bool} {fe : Ev → Sto → R D} {own : List (Str × Nat)} {ix : List Nat}
    (c : Cok X g C ev E N sc Xw k) (hi : PI X tg iter (tI X.K E Xw fi)) (ok : blkC N sc scope own = true) (hix : ∀ i ∈ ix, i ∈ own.map (·.2))
    (hg : ∀ s H C cl fp xe, PG (blkX X s H scope (compEnvC scope cl C X.env) fp xe) tg (tG X.K E ftg ix))
    (ht : ∀ s H C cl fp xe, PTs (blkX X s H scope (compEnvC scope cl C X.env) fp xe) ifs (tBl X.K E (fun _ _ _ => False) fc))
    (he : ∀ s H C cl fp xe Xe, TakesA (blkX X s H scope (compEnvC scope cl C X.env) fp xe) (wxOf ev Xe) → PE (blkX X s H scope (compEnvC scope cl C X.env) fp xe) elt (tE X.K E Xe fe))
    (hs : ∀ x, foldedSetIterable iter X.env x = pure x) :
    PE X (.ListComp elt [⟨tg, iter, ifs, 0⟩] scope pos) (tE X.K E Xw fun ρ S => (fi ρ S).bind fun ds S1 => if ds.length ≤ LINE then
            (compL (fun d S2 => lcStep fc fe S2 (ftg d (wipeE ρ (own.map (·.2))))) ds [] S1).bind fun ys S5 => .ok (.lst ys) S5 else .bad) := by
  obtain ⟨E0, O, L, q1, q2, q3⟩ := c.stk
  refine (pe_lcX (tX := fun W' => tE X.K E (fun cc σ3 H' => W' (ev cc) none σ3 H') fe) q1 q2 q3 c.tk c.calm (by rw [c.hN]; exact c.nd) hi (own := own) (by rw [c.hN, c.hsc]; exact blkOk_by ok) hg ht (fun s H C cl fp xe W' tk => he s H C cl fp xe _ (tk.imp fun cls σ H' z => ?_)) hs).wk fun σ H Q h => lc_red hix (fun cc σ2 H' z => ⟨cc, rfl, rfl, z⟩) h
  obtain ⟨cc, e, _, z⟩ := z
  rw [e]
  exact z
/-! ### dicts {k: True for ..} -/
theorem dc_red {fi : Ev → Sto → R (List D)} {ftg : D → Ev → Option Ev} {fc : Ev → Sto → R Bool} {fk : Ev → Sto → R D} {own : List (Str × Nat)} {ix : List Nat} (hix : ∀ i ∈ ix, i ∈ own.map (·.2))
    {σ : L2.St} {H : Hp} {Q : VK} (h : tE X.K E Xw (fun ρ S => (fi ρ S).bind fun ds S1 => if ds.length ≤ LINE then
            (compL (fun d S2 => lcStep fc (fun ρ1 S3 => (keyE (fk ρ1 S3)).noe) S2 (ftg d (wipeE ρ (own.map (·.2))))) ds [] S1).bind fun ys S5 => .ok (.dic (dedupI (keysOf ys))) S5 else .bad) σ H Q) :
    tDc (tI X.K E Xw fi) (tG X.K E ftg ix) (tBl X.K E (fun _ _ _ => False) fc) (tE X.K E (fun _ _ _ => False) fk) (tC (.bl true)) (own.map (·.2)) σ H Q := by
  obtain ⟨W, ρ, S, rel, res⟩ := h
  refine ⟨W, ρ, S, rel, (Res.bind res).mono fun ds S1 W1 H1 l1 w1 p J wk D hD => ?_⟩
  have rel1 := rel.step l1 w1
  split at p
  · rename_i hz
    generalize hstep : (fun (d : Lw.D) (S2 : Sto) => lcStep fc (fun ρ1 S3 => (keyE (fk ρ1 S3)).noe) S2 (ftg d (wipeE ρ (own.map (·.2))))) = step at p
    let fin : List Lw.D → Sto → R Lw.D := fun ys S5 => .ok (.dic (dedupI (keysOf ys))) S5
    let P : Lw.D → Sto → Wd → Hp → Prop := fun d _ W' H' => ∀ v, Rep X.K W' H' d v → Q v H'
    have n1 : ∀ (ks : List Int) xs, HO.dK (kTrue ks) ≠ .tup xs := fun _ _ z => by cases z
    have n2 : ∀ (ks : List Int) ob u, HO.dK (kTrue ks) ≠ .frz ob u := fun _ _ _ z => by cases z
    have n3 : ∀ (ks : List Int) xs, HO.dK (kTrue ks) ≠ .lst xs := fun _ _ z => by cases z
    refine ⟨fun i m H' => m = ds.length - i ∧ i ≤ ds.length ∧ ∃ W' S' acc, Le W1 H1 W' H' ∧ WS X.K W' H' S' ∧ HeldD W' H' D (dedupI acc) ∧ acc.length ≤ i ∧
      Res X.K E Xw W1 H1 ρ σ ((compL step (ds.drop i) (acc.map Lw.D.int) S').bind fin) P, ⟨ds.length, by omega, Nat.zero_le _, W1, S1, [], ?_, ?_, ⟨upd_same, fun f => w1.fz D f hD, fun j hj z => w1.some hj (by rw [z]; exact hD)⟩, Nat.le_refl _, p⟩, ?_⟩
    · exact le_new (K := X.K) w1 hD (.dK []) W1 rfl rfl rfl (fun _ h => h) (fun _ h => .inl h)
    · exact ws_new w1 hD (.dK []) W1 rfl rfl rfl (fun _ h => h) (fun _ h => .inl h) (fun xs e => by cases e) (fun xs e => by cases e) (fun _ _ e => by cases e)
    · rintro i m H' ⟨rfl, hile, W', S', acc, l, w, hd, hlen, r⟩
      obtain ⟨item, stop⟩ := wk W' H' S' (l.pre w1) w
      by_cases hlt : i < ds.length
      · obtain ⟨go, yl⟩ := item i ds[i] (List.getElem?_eq_getElem hlt)
        refine .inr ⟨go, fun H'' => i + 1 ≤ ds.length ∧ ∃ W' S' acc, Le W1 H1 W' H'' ∧ WS X.K W' H'' S' ∧ HeldD W' H'' D (dedupI acc) ∧ acc.length ≤ i + 1 ∧
          Res X.K E Xw W1 H1 ρ σ ((compL step (ds.drop (i + 1)) (acc.map Lw.D.int) S').bind fin) P, fun H'' h => ⟨ds.length - (i + 1), by omega, rfl, h⟩, fun x H2 y => ?_⟩
        obtain ⟨W2, l2, w2, rx⟩ := yl x H2 y
        have hd2 := hd.le l2
        have rel2 := (rel1.step (l.trans l2) w2).wipe (own.map (·.2))
        rw [List.drop_eq_getElem_cons hlt] at r
        have r2 : Res X.K E Xw W1 H1 ρ σ (((step ds[i] S').bind fun o S1 => match o with
          | some y => compL step (ds.drop (i + 1)) (acc.map Lw.D.int ++ [y]) S1
          | none => compL step (ds.drop (i + 1)) (acc.map Lw.D.int) S1).bind fin) P := r
        rw [← hstep] at r2
        dsimp only at r2
        cases hf : ftg ds[i] (wipeE ρ (own.map (·.2))) with
        | none => rw [hf] at r2; exact False.elim r2
        | some ρ1 =>
          rw [hf] at r2
          rw [show lcStep fc (fun ρ1 S3 => (keyE (fk ρ1 S3)).noe) S' (some ρ1) = ((fc ρ1 S').noe.bind fun t S3 => if t then (keyE (fk ρ1 S3)).noe.bind fun y S4 => R.ok (some y) S4 else R.ok none S3) from rfl] at r2
          refine ⟨W2, _, S', ds[i], ρ1, rel2, rx, hf, fun σ2 relx len2 out2 => ⟨wipe_eq hix len2 out2, W2, ρ1, S', relx, ?_⟩⟩
          cases hc : fc ρ1 S' with
          | bad => rw [hc] at r2; exact False.elim r2
          | err cc S3 => rw [hc] at r2; exact False.elim r2
          | ok t S3 =>
            rw [hc] at r2
            intro W3 H3 l3 w3
            have hd3 := hd2.le l3
            cases t with
            | false =>
              refine iteF ?_
              have r3 : Res X.K E Xw W1 H1 ρ σ ((compL step (ds.drop (i + 1)) (acc.map Lw.D.int) S3).bind fin) P := by rw [← hstep]; exact r2
              exact ⟨hlt, W3, S3, acc, (l.trans l2).trans l3, w3, hd3, by omega, r3⟩
            | true =>
              refine iteT ?_
              refine ⟨W3, ρ1, S3, relx.step l3 w3, ?_⟩
              have r3 : Res X.K E Xw W1 H1 ρ σ ((((keyE (fk ρ1 S3)).noe.bind fun y S4 => .ok (some y) S4).bind fun o S1 => match o with
                | some y => compL step (ds.drop (i + 1)) (acc.map Lw.D.int ++ [y]) S1
                | none => compL step (ds.drop (i + 1)) (acc.map Lw.D.int) S1).bind fin) P := by rw [← hstep]; exact r2
              cases hee : fk ρ1 S3 with
              | bad => rw [hee] at r3; exact False.elim r3
              | err cc S4 => rw [hee] at r3; exact False.elim r3
              | ok y S4 =>
                rw [hee] at r3
                intro W4 H4 l4 w4 v rv
                have hd4 := hd3.le l4
                cases rv with
                | int n =>
                  have lz : (kTrue (dedupI acc)).length < sizeLine := by
                    unfold kTrue
                    rw [size_line, List.length_map]
                    have := dedup_len acc
                    omega
                  refine ⟨kTrue (dedupI acc), .inl n, rfl, hd4.at_, lz, hlt, W4, S4, acc ++ [n], ?_, ?_, ?_, by rw [List.length_append, List.length_singleton]; omega, ?_⟩
                  · exact le_own (((l.trans l2).trans l3).trans l4) hD
                  · rw [put_true]
                    exact own_ws' w4 hd4.at_ (n1 _) (n2 _) hd4.nf hd4.ns (n3 _) (n1 _) (n2 _)
                  · rw [put_true, dedup_snoc]
                    exact ⟨upd_same, hd4.nf, hd4.ns⟩
                  · rw [List.map_append]
                    exact r3
                | _ => exact False.elim r3
      · have e : i = ds.length := by omega
        subst e
        refine .inl ⟨stop, ?_⟩
        rw [List.drop_length] at r
        have r1 : Res X.K E Xw W1 H1 ρ σ (.ok (.dic (dedupI (keysOf (acc.map Lw.D.int)))) S') P := r
        rw [keys_ints] at r1
        have r2 := r1 (W'.add D) H' (le_add l hD) (ws_add w (by rw [hd.at_]; exact fun z => by cases z) hd.ns)
        exact r2 _ (.dic (.inr rfl) (.inl hd.at_))
  · exact False.elim p
theorem den_dc {kx vx iter : Expr} {ifs : List Expr} {scope : Scope} {pos : Pos} {fi : Ev → Sto → R (List D)} {ftg : D → Ev → Option Ev} {fc : Ev → Sto → R Bool} {fk : Ev → Sto → R D} {own : List (Str × Nat)} {ix : List Nat}
    (c : Cok X g C ev E N sc Xw k) (hi : PI X tg iter (tI X.K E Xw fi)) (ok : blkC N sc scope own = true) (hix : ∀ i ∈ ix, i ∈ own.map (·.2))
    (hg : ∀ (s : Shared) (H : Hp) (C : Addr) (cl : List (Str × Addr)) (fp : List Addr), PG (X.blk s H scope (compEnvC scope cl C X.env) fp) tg (tG X.K E ftg ix))
    (ht : ∀ (s : Shared) (H : Hp) (C : Addr) (cl : List (Str × Addr)) (fp : List Addr), PTs (X.blk s H scope (compEnvC scope cl C X.env) fp) ifs (tBl X.K E (fun _ _ _ => False) fc))
    (hk : ∀ (s : Shared) (H : Hp) (C : Addr) (cl : List (Str × Addr)) (fp : List Addr), PE (X.blk s H scope (compEnvC scope cl C X.env) fp) kx (tE X.K E (fun _ _ _ => False) fk))
    (hv : ∃ q1 q2, vx = .Constant (.bool true) q1 q2) (hs : ∀ x, foldedSetIterable iter X.env x = pure x) :
    PE X (.DictComp kx vx [⟨tg, iter, ifs, 0⟩] scope pos) (tE X.K E Xw fun ρ S => (fi ρ S).bind fun ds S1 => if ds.length ≤ LINE then
            (compL (fun d S2 => lcStep fc (fun ρ1 S3 => (keyE (fk ρ1 S3)).noe) S2 (ftg d (wipeE ρ (own.map (·.2))))) ds [] S1).bind fun ys S5 => .ok (.dic (dedupI (keysOf ys))) S5 else .bad) := by
  obtain ⟨q1, q2, rfl⟩ := hv
  exact (pe_dc c.calm (by rw [c.hN]; exact c.nd) hi (own := own) (by rw [c.hN, c.hsc]; exact blkOk_by ok) hg ht hk (fun _ _ _ _ _ => pe_bl) hs).wk fun σ H Q h => dc_red hix h
/-! ### two clauses -/
theorem grow1 {step : D → Sto → R (Option D)} : ∀ {ds acc : List D} {S : Sto} {ys : List D} {S' : Sto}, compL step ds acc S = .ok ys S' → acc.length ≤ ys.length
  | [], acc, S, ys, S', h => by
    have e : R.ok acc S = R.ok ys S' := h
    cases e
    exact Nat.le_refl _
  | d :: ds, acc, S, ys, S', h => by
    have e : ((step d S).bind fun o S1 => match o with
      | some y => compL step ds (acc ++ [y]) S1
      | none => compL step ds acc S1) = .ok ys S' := h
    cases q : step d S with
    | bad => rw [q] at e; cases e
    | err c S1 => rw [q] at e; cases e
    | ok o S1 =>
      rw [q] at e
      cases o with
      | none => exact grow1 (show compL step ds acc S1 = .ok ys S' from e)
      | some y =>
        have z := grow1 (show compL step ds (acc ++ [y]) S1 = .ok ys S' from e)
        rw [List.length_append] at z
        exact Nat.le_of_succ_le z
theorem grow2 {step : D → List D → Sto → R (List D)} (hg : ∀ {d acc S ys S'}, step d acc S = .ok ys S' → acc.length ≤ ys.length) : ∀ {ds acc : List D} {S : Sto} {ys : List D} {S' : Sto}, foldL2 step ds acc S = .ok ys S' → acc.length ≤ ys.length
  | [], acc, S, ys, S', h => by
    have e : R.ok acc S = R.ok ys S' := h
    cases e
    exact Nat.le_refl _
  | d :: ds, acc, S, ys, S', h => by
    have e : ((step d acc S).bind fun acc1 S1 => foldL2 step ds acc1 S1) = .ok ys S' := h
    cases q : step d acc S with
    | bad => rw [q] at e; cases e
    | err c S1 => rw [q] at e; cases e
    | ok acc1 S1 =>
      rw [q] at e
      exact Nat.le_trans (hg q) (grow2 hg (show foldL2 step ds acc1 S1 = .ok ys S' from e))
theorem grow3 {fc : Ev → Sto → R Bool} {fi : Ev → Sto → R (List D)} {fs : Ev → D → Sto → R (Option D)} {acc ys : List D} {S S' : Sto} {o : Option Ev} (h : lc2Step fc fi fs acc S o = .ok ys S') : acc.length ≤ ys.length := by
  cases o with
  | none => cases h
  | some ρ1 =>
    have e : ((fc ρ1 S).noe.bind fun t S3 => if t then (fi ρ1 S3).noe.bind fun ds S4 => compL (fs ρ1) ds acc S4 else R.ok acc S3) = .ok ys S' := h
    cases q : fc ρ1 S with
    | bad => rw [q] at e; cases e
    | err c S1 => rw [q] at e; cases e
    | ok t S3 =>
      rw [q] at e
      cases t with
      | false =>
        have z : R.ok acc S3 = R.ok ys S' := e
        cases z
        exact Nat.le_refl _
      | true =>
        have z : ((fi ρ1 S3).noe.bind fun ds S4 => compL (fs ρ1) ds acc S4) = .ok ys S' := e
        cases q2 : fi ρ1 S3 with
        | bad => rw [q2] at z; cases z
        | err c S1 => rw [q2] at z; cases z
        | ok ds S4 =>
          rw [q2] at z
          exact grow1 (show compL (fs ρ1) ds acc S4 = .ok ys S' from z)
/-- what is left of the loops is long enough -/
theorem left_len {W1 : Wd} {H1 : Hp} {ρ : Ev} {σ : L2.St} {x : R (List D)} {P : D → Sto → Wd → Hp → Prop} (r : Res X.K E Xw W1 H1 ρ σ (x.noe.bind fun ys S5 => if ys.length ≤ LINE then R.ok (D.lst ys) S5 else .bad) P) : ∃ ys S5, x = .ok ys S5 ∧ ys.length ≤ LINE := by
  cases x with
  | bad => exact False.elim r
  | err c S => exact False.elim r
  | ok ys S5 =>
    refine ⟨ys, S5, rfl, ?_⟩
    have r2 : Res X.K E Xw W1 H1 ρ σ (if ys.length ≤ LINE then R.ok (D.lst ys) S5 else .bad) P := r
    split at r2
    · assumption
    · exact False.elim r2
theorem lc2_red {fi : Ev → Sto → R (List D)} {ftg : D → Ev → Option Ev} {fc : Ev → Sto → R Bool} {fi1 : Ev → Sto → R (List D)} {ftg1 : D → Ev → Option Ev} {fc1 : Ev → Sto → R Bool} {fe : Ev → Sto → R D} {own : List (Str × Nat)} {ix ix1 : List Nat} (hix : ∀ i ∈ ix, i ∈ own.map (·.2))
    (aw : ∀ (d : D) (ρ ρ' : Ev), ftg d ρ = some ρ' → ∀ j os, getSl ρ' j = .own os → j ∉ ix ∧ getSl ρ j = .own os)
    {σ : L2.St} {H : Hp} {Q : VK} (h : tE X.K E Xw (fun ρ S => (fi ρ S).bind fun ds S1 =>
            (foldL2 (fun d acc S2 => lc2Step fc fi1 (fun ρ1 d1 S3 => lcStep fc1 (fun ρ2 S4 => (fe ρ2 S4).noe) S3 (ftg1 d1 (wipeE ρ1 ix1))) acc S2 (ftg d (wipeE ρ (own.map (·.2))))) ds [] S1).noe.bind fun ys S5 => if ys.length ≤ LINE then .ok (.lst ys) S5 else .bad) σ H Q) :
    tLc2 (tI X.K E Xw fi) (tG X.K E ftg ix) (tBl X.K E (fun _ _ _ => False) fc) (tI X.K E (fun _ _ _ => False) fi1) (tG X.K E ftg1 ix1) (tBl X.K E (fun _ _ _ => False) fc1) (tE X.K E (fun _ _ _ => False) fe) (own.map (·.2)) ix1 σ H Q := by
  obtain ⟨W, ρ, S, rel, res⟩ := h
  refine ⟨W, ρ, S, rel, (Res.bind res).mono fun ds S1 W1 H1 l1 w1 p J wk D hD => ?_⟩
  have rel1 := rel.step l1 w1
  have hE : E.H D = none := rel1.le.gone hD
  let in1 : Ev → Lw.D → Sto → R (Option Lw.D) := fun ρ1 d1 S3 => lcStep fc1 (fun ρ2 S4 => (fe ρ2 S4).noe) S3 (ftg1 d1 (wipeE ρ1 ix1))
  generalize hstep : (fun (d : Lw.D) (acc : List Lw.D) (S2 : Sto) => lc2Step fc fi1 (fun ρ1 d1 S3 => lcStep fc1 (fun ρ2 S4 => (fe ρ2 S4).noe) S3 (ftg1 d1 (wipeE ρ1 ix1))) acc S2 (ftg d (wipeE ρ (own.map (·.2))))) = step at p
  have hgr : ∀ {d acc S ys S'}, step d acc S = .ok ys S' → acc.length ≤ ys.length := fun {d acc S ys S'} q => by
    rw [← hstep] at q
    exact grow3 q
  let fin : List Lw.D → Sto → R Lw.D := fun ys S5 => if ys.length ≤ LINE then .ok (.lst ys) S5 else .bad
  let P : Lw.D → Sto → Wd → Hp → Prop := fun d _ W' H' => ∀ v, Rep X.K W' H' d v → Q v H'
  refine ⟨fun i m H' => m = ds.length - i ∧ i ≤ ds.length ∧ ∃ W' S' acc vacc, Le W1 H1 W' H' ∧ WS X.K W' H' S' ∧ Held X.K W' H' D acc vacc ∧
    Res X.K E Xw W1 H1 ρ σ ((foldL2 step (ds.drop i) acc S').noe.bind fin) P, ⟨ds.length, by omega, Nat.zero_le _, W1, S1, [], [], ?_, ?_, ⟨upd_same, .nil, fun f => w1.fz D f hD, fun j hj z => w1.some hj (by rw [z]; exact hD)⟩, p⟩, ?_⟩
  · exact le_new (K := X.K) w1 hD (.lst []) W1 rfl rfl rfl (fun _ h => h) (fun _ h => .inl h)
  · exact ws_new w1 hD (.lst []) W1 rfl rfl rfl (fun _ h => h) (fun _ h => .inl h) (fun xs e => by cases e; exact Nat.zero_le _) (fun xs e => by cases e) (fun _ _ e => by cases e)
  · rintro i m H' ⟨rfl, hile, W', S', acc, vacc, l, w, hd, r⟩
    obtain ⟨item, stop⟩ := wk W' H' S' (l.pre w1) w
    by_cases hlt : i < ds.length
    · obtain ⟨go, yl⟩ := item i ds[i] (List.getElem?_eq_getElem hlt)
      refine .inr ⟨go, fun H'' => i + 1 ≤ ds.length ∧ ∃ W' S' acc vacc, Le W1 H1 W' H'' ∧ WS X.K W' H'' S' ∧ Held X.K W' H'' D acc vacc ∧
        Res X.K E Xw W1 H1 ρ σ ((foldL2 step (ds.drop (i + 1)) acc S').noe.bind fin) P, fun H'' h => ⟨ds.length - (i + 1), by omega, rfl, h⟩, fun x H2 y => ?_⟩
      obtain ⟨W2, l2, w2, rx⟩ := yl x H2 y
      have hd2 := hd.le w l2
      have rel2 := (rel1.step (l.trans l2) w2).wipe (own.map (·.2))
      rw [List.drop_eq_getElem_cons hlt] at r
      have r2 : Res X.K E Xw W1 H1 ρ σ (((step ds[i] acc S').bind fun acc1 S1 => foldL2 step (ds.drop (i + 1)) acc1 S1).noe.bind fin) P := r
      rw [show step ds[i] acc S' = lc2Step fc fi1 in1 acc S' (ftg ds[i] (wipeE ρ (own.map (·.2)))) from by rw [← hstep]] at r2
      cases hf : ftg ds[i] (wipeE ρ (own.map (·.2))) with
      | none => rw [hf] at r2; exact False.elim r2
      | some ρ1 =>
        rw [hf] at r2
        rw [show lc2Step fc fi1 in1 acc S' (some ρ1) = ((fc ρ1 S').noe.bind fun t S3 => if t then (fi1 ρ1 S3).noe.bind fun ds S4 => compL (in1 ρ1) ds acc S4 else R.ok acc S3) from rfl] at r2
        refine ⟨W2, _, S', ds[i], ρ1, rel2, rx, hf, fun σ2 relx len2 out2 => ⟨wipe_eq hix len2 out2, W2, ρ1, S', relx, ?_⟩⟩
        have apD : ∀ j es b, getSl ρ1 j = .own es → σ2[j]? = some (some (.ref b)) → b ≠ D := fun j es b h1 h2 z => by
          obtain ⟨a1, a2⟩ := aw _ _ _ hf j es h1
          obtain ⟨a3, a4⟩ := getSl_wipe (fun z => by cases z) a2
          rw [out2 j a1, wipe_out a4] at h2
          obtain ⟨b', hb', us, hu, _⟩ := rel1.own j es a3
          rw [h2] at hb'
          cases hb'
          rw [z, hD] at hu
          cases hu
        cases hc : fc ρ1 S' with
        | bad => rw [hc] at r2; exact False.elim r2
        | err cc S3 => rw [hc] at r2; exact False.elim r2
        | ok t S3 =>
          rw [hc] at r2
          intro W3 H3 l3 w3
          have hd3 := hd2.le w2 l3
          cases t with
          | false => exact iteF ⟨hlt, W3, S3, acc, vacc, (l.trans l2).trans l3, w3, hd3, r2⟩
          | true =>
            refine iteT ⟨W3, ρ1, S3, relx.step l3 w3, ?_⟩
            have r3 : Res X.K E Xw W1 H1 ρ σ ((((fi1 ρ1 S3).noe.bind fun ds S4 => compL (in1 ρ1) ds acc S4).bind fun acc1 S1 => foldL2 step (ds.drop (i + 1)) acc1 S1).noe.bind fin) P := r2
            cases hi1 : fi1 ρ1 S3 with
            | bad => rw [hi1] at r3; exact False.elim r3
            | err cc S4 => rw [hi1] at r3; exact False.elim r3
            | ok ds1 S4 =>
              rw [hi1] at r3
              intro W4 H4 l4 w4 J1 wk1
              have r4 : Res X.K E Xw W1 H1 ρ σ (((compL (in1 ρ1) ds1 acc S4).bind fun acc1 S1 => foldL2 step (ds.drop (i + 1)) acc1 S1).noe.bind fin) P := r3
              refine ⟨fun j k H' => k = ds1.length - j ∧ j ≤ ds1.length ∧ ∃ W' S' acc vacc, Le W1 H1 W' H' ∧ Pre X.K W4 H4 W' H' ∧ Rel X.K E W' H' ρ1 σ2 S' ∧ Held X.K W' H' D acc vacc ∧
                Res X.K E Xw W1 H1 ρ σ (((compL (in1 ρ1) (ds1.drop j) acc S').bind fun acc1 S1 => foldL2 step (ds.drop (i + 1)) acc1 S1).noe.bind fin) P,
                ⟨ds1.length, by omega, Nat.zero_le _, W4, S4, acc, vacc, ((l.trans l2).trans l3).trans l4, Pre.refl, (relx.step l3 w3).step l4 w4, hd3.le w3 l4, r4⟩, ?_⟩
              rintro j k H' ⟨rfl, hj, W', S', acc, vacc, l', p', rel', hd', r'⟩
              obtain ⟨item1, stop1⟩ := wk1 W' H' S' p' rel'.ws
              by_cases hlt1 : j < ds1.length
              · obtain ⟨go1, yl1⟩ := item1 j ds1[j] (List.getElem?_eq_getElem hlt1)
                refine .inr ⟨go1, fun H'' => j + 1 ≤ ds1.length ∧ ∃ W' S' acc vacc, Le W1 H1 W' H'' ∧ Pre X.K W4 H4 W' H'' ∧ Rel X.K E W' H'' ρ1 σ2 S' ∧ Held X.K W' H'' D acc vacc ∧
                  Res X.K E Xw W1 H1 ρ σ (((compL (in1 ρ1) (ds1.drop (j + 1)) acc S').bind fun acc1 S1 => foldL2 step (ds.drop (i + 1)) acc1 S1).noe.bind fin) P, fun H'' h => ⟨ds1.length - (j + 1), by omega, rfl, h⟩, fun x H5 y => ?_⟩
                obtain ⟨W5, l5, w5, rx5⟩ := yl1 x H5 y
                have hd5 := hd'.le rel'.ws l5
                have rel5 := rel'.step l5 w5
                rw [List.drop_eq_getElem_cons hlt1] at r'
                have r5 : Res X.K E Xw W1 H1 ρ σ ((((lcStep fc1 (fun ρ2 S4 => (fe ρ2 S4).noe) S' (ftg1 ds1[j] (wipeE ρ1 ix1))).bind fun o S1 => match o with
                  | some y => compL (in1 ρ1) (ds1.drop (j + 1)) (acc ++ [y]) S1
                  | none => compL (in1 ρ1) (ds1.drop (j + 1)) acc S1).bind fun acc1 S1 => foldL2 step (ds.drop (i + 1)) acc1 S1).noe.bind fin) P := r'
                cases hf1 : ftg1 ds1[j] (wipeE ρ1 ix1) with
                | none => rw [hf1] at r5; exact False.elim r5
                | some ρ3 =>
                  rw [hf1] at r5
                  rw [show lcStep fc1 (fun ρ2 S4 => (fe ρ2 S4).noe) S' (some ρ3) = ((fc1 ρ3 S').noe.bind fun t S3 => if t then (fe ρ3 S3).noe.bind fun y S4 => R.ok (some y) S4 else R.ok none S3) from rfl] at r5
                  refine ⟨W5, _, S', ds1[j], ρ3, rel5.wipe ix1, rx5, hf1, fun σ3 rel3 len3 out3 => ⟨wipe_eq (fun i h => h) len3 out3, W5, ρ3, S', rel3, ?_⟩⟩
                  cases hc1 : fc1 ρ3 S' with
                  | bad => rw [hc1] at r5; exact False.elim r5
                  | err cc S6 => rw [hc1] at r5; exact False.elim r5
                  | ok t1 S6 =>
                    rw [hc1] at r5
                    intro W6 H6 l6 w6
                    have hd6 := hd5.le w5 l6
                    cases t1 with
                    | false => exact iteF ⟨hlt1, W6, S6, acc, vacc, l'.trans (l5.trans l6), p'.trans ((l5.trans l6).pre rel'.ws), rel5.step l6 w6, hd6, r5⟩
                    | true =>
                      refine iteT ⟨W6, ρ3, S6, rel3.step l6 w6, ?_⟩
                      have r6 : Res X.K E Xw W1 H1 ρ σ (((((fe ρ3 S6).noe.bind fun y S4 => R.ok (some y) S4).bind fun o S1 => match o with
                        | some y => compL (in1 ρ1) (ds1.drop (j + 1)) (acc ++ [y]) S1
                        | none => compL (in1 ρ1) (ds1.drop (j + 1)) acc S1).bind fun acc1 S1 => foldL2 step (ds.drop (i + 1)) acc1 S1).noe.bind fin) P := r5
                      cases hee : fe ρ3 S6 with
                      | bad => rw [hee] at r6; exact False.elim r6
                      | err cc S7 => rw [hee] at r6; exact False.elim r6
                      | ok y S7 =>
                        rw [hee] at r6
                        intro W7 H7 l7 w7 v rv
                        have hd7 := hd6.le w6 l7
                        have r7 : Res X.K E Xw W1 H1 ρ σ (((compL (in1 ρ1) (ds1.drop (j + 1)) (acc ++ [y]) S7).bind fun acc1 S1 => foldL2 step (ds.drop (i + 1)) acc1 S1).noe.bind fin) P := r6
                        have lz : vacc.length < sizeLine := by
                          obtain ⟨ys, S9, e9, h9⟩ := left_len r7
                          cases q : compL (in1 ρ1) (ds1.drop (j + 1)) (acc ++ [y]) S7 with
                          | bad => rw [q] at e9; cases e9
                          | err c S8 => rw [q] at e9; cases e9
                          | ok acc1 S8 =>
                            rw [q] at e9
                            have g1 := grow1 q
                            have g2 := grow2 hgr (show foldL2 step (ds.drop (i + 1)) acc1 S8 = .ok ys S9 from e9)
                            rw [List.length_append, List.length_singleton] at g1
                            rw [size_line, ← hd7.reps.length]
                            omega
                        have lz2 : (vacc ++ [v]).length ≤ sizeLine := by rw [List.length_append]; exact lz
                        have lx := l'.trans (l5.trans (l6.trans l7))
                        exact ⟨vacc, hd7.at_, lz, hlt1, W7, S7, acc ++ [y], vacc ++ [v], le_own lx hD, (p'.trans ((l5.trans (l6.trans l7)).pre rel'.ws)).trans (own_pre hd7), (rel5.step (l6.trans l7) w7).alien hd7 hE lz2 apD, ⟨upd_same, (hd7.reps.append (Reps.one rv)).pre (own_pre hd7), hd7.nf, hd7.ns⟩, r7⟩
              · have e : j = ds1.length := by omega
                subst e
                rw [List.drop_length] at r'
                exact .inl ⟨stop1, hlt, W', S', acc, vacc, l', rel'.ws, hd', r'⟩
    · have e : i = ds.length := by omega
      subst e
      refine .inl ⟨stop, ?_⟩
      rw [List.drop_length] at r
      have r1 : Res X.K E Xw W1 H1 ρ σ (if acc.length ≤ LINE then R.ok (.lst acc) S' else .bad) P := r
      split at r1
      · exact r1 (W'.add D) H' (le_add l hD) (ws_add w (by rw [hd.at_]; exact fun z => by cases z) hd.ns) _ (.lst (.inr rfl) (.inl hd.at_) (hd.reps.pre pre_add))
      · exact False.elim r1
theorem den_lc2 {elt iter iter1 tg1 : Expr} {ifs ifs1 : List Expr} {scope : Scope} {pos : Pos} {fi : Ev → Sto → R (List D)} {ftg : D → Ev → Option Ev} {fc : Ev → Sto → R Bool} {fi1 : Ev → Sto → R (List D)} {ftg1 : D → Ev → Option Ev} {fc1 : Ev → Sto → R Bool} {fe : Ev → Sto → R D} {own : List (Str × Nat)} {ix ix1 : List Nat}
    (c : Cok X g C ev E N sc Xw k) (hi : PI X tg iter (tI X.K E Xw fi)) (ok : blkC N sc scope own = true) (hix : ∀ i ∈ ix, i ∈ own.map (·.2)) (hix1 : ∀ i ∈ ix1, i ∈ own.map (·.2))
    (aw : ∀ (d : D) (ρ ρ' : Ev), ftg d ρ = some ρ' → ∀ j os, getSl ρ' j = .own os → j ∉ ix ∧ getSl ρ j = .own os)
    (hg : ∀ (s : Shared) (H : Hp) (C : Addr) (cl : List (Str × Addr)) (fp : List Addr), PG (X.blk s H scope (compEnvC scope cl C X.env) fp) tg (tG X.K E ftg ix))
    (ht : ∀ (s : Shared) (H : Hp) (C : Addr) (cl : List (Str × Addr)) (fp : List Addr), PTs (X.blk s H scope (compEnvC scope cl C X.env) fp) ifs (tBl X.K E (fun _ _ _ => False) fc))
    (hi1 : ∀ (s : Shared) (H : Hp) (C : Addr) (cl : List (Str × Addr)) (fp : List Addr), PI (X.blk s H scope (compEnvC scope cl C X.env) fp) tg1 iter1 (tI X.K E (fun _ _ _ => False) fi1))
    (hg1 : ∀ (s : Shared) (H : Hp) (C : Addr) (cl : List (Str × Addr)) (fp : List Addr), PG (X.blk s H scope (compEnvC scope cl C X.env) fp) tg1 (tG X.K E ftg1 ix1))
    (ht1 : ∀ (s : Shared) (H : Hp) (C : Addr) (cl : List (Str × Addr)) (fp : List Addr), PTs (X.blk s H scope (compEnvC scope cl C X.env) fp) ifs1 (tBl X.K E (fun _ _ _ => False) fc1))
    (he : ∀ (s : Shared) (H : Hp) (C : Addr) (cl : List (Str × Addr)) (fp : List Addr), PE (X.blk s H scope (compEnvC scope cl C X.env) fp) elt (tE X.K E (fun _ _ _ => False) fe))
    (hs : ∀ x, foldedSetIterable iter X.env x = pure x) (hs1 : ∀ env x, foldedSetIterable iter1 env x = pure x) :
    PE X (.ListComp elt [⟨tg, iter, ifs, 0⟩, ⟨tg1, iter1, ifs1, 0⟩] scope pos) (tE X.K E Xw fun ρ S => (fi ρ S).bind fun ds S1 =>
            (foldL2 (fun d acc S2 => lc2Step fc fi1 (fun ρ1 d1 S3 => lcStep fc1 (fun ρ2 S4 => (fe ρ2 S4).noe) S3 (ftg1 d1 (wipeE ρ1 ix1))) acc S2 (ftg d (wipeE ρ (own.map (·.2))))) ds [] S1).noe.bind fun ys S5 => if ys.length ≤ LINE then .ok (.lst ys) S5 else .bad) :=
  (pe_lc2 c.calm (by rw [c.hN]; exact c.nd) hi (own := own) (by rw [c.hN, c.hsc]; exact blkOk_by ok) hix1 hg ht hi1 hg1 ht1 he hs hs1).wk fun σ H Q h => lc2_red hix aw h
end
end Lw
set_option maxHeartbeats 2000000
/-! LwQ: things of the store: new ones, written ones; displays of dicts. -/
namespace Lw
open PySem PySem.Spec PyProof.Rows L2
section
variable {K : PySem.W.Frag} {W W' W0 W1 : Wd} {H H' H0 H1 : Hp} {S S' : Sto} {E : Ent} {ρ : Ev} {σ : L2.St} {p : Addr} {o : HO} {mo : MO}
def Wd.push (W : Wd) (p : Addr) : Wd := { W with n := W.n + 1, μ := fun i => if i = W.n then p else W.μ i }
theorem push_old {W : Wd} {p : Addr} {i : Nat} (h : i < W.n) : (W.push p).μ i = W.μ i := if_neg (Nat.ne_of_lt h)
theorem push_new {W : Wd} {p : Addr} : (W.push p).μ W.n = p := if_pos rfl
theorem pre_push : Pre K W H (W.push p) H := ⟨fun _ _ h => h, fun _ h => h, fun _ _ _ h => h, Nat.le_succ _, fun _ hi => push_old hi, rfl⟩
/-- an address that may become the store's -/
structure Free (W : Wd) (H : Hp) (p : Addr) : Prop where
  k : ∀ o0, H p = some o0 → (∀ xs, o0 ≠ .tup xs) ∧ ∀ ob u, o0 ≠ .frz ob u
  nf : ¬ W.Fz p
  ns : ∀ i, i < W.n → W.μ i ≠ p
theorem free_none (w : WS K W H S) (hp : H p = none) : Free W H p where
  k := fun o0 e => by rw [hp] at e; cases e
  nf := fun f => w.fz p f hp
  ns := fun i hi z => w.some hi (by rw [z]; exact hp)
theorem free_pre (f : Free W H p) : Pre K W H W (upd H p o) where
  tup := fun c xs q => by
    rcases q with (q | ⟨ob, q⟩) | q
    · exact .inl (.inl (by rw [upd_ne fun z => by rw [z] at q; exact (f.k _ q).1 _ rfl]; exact q))
    · exact .inl (.inr ⟨ob, by rw [upd_ne fun z => by rw [z] at q; exact (f.k _ q).2 _ _ rfl]; exact q⟩)
    · exact .inr q
  fz := fun _ f => f
  frz := fun c xs g q => by
    have ne : c ≠ p := fun z => f.nf (by rw [← z]; exact g)
    rcases q with q | ⟨ob, q⟩
    · exact .inl (by rw [upd_ne ne]; exact q)
    · exact .inr ⟨ob, by rw [upd_ne ne]; exact q⟩
  n := Nat.le_refl _
  mu := fun _ _ => rfl
  w := rfl
theorem wf_upd (h : ∀ a xs, Rd H a (.lst xs) → xs.length ≤ sizeLine) (hl : ∀ xs, o = .lst xs → xs.length ≤ sizeLine) (hz : ∀ ob u, o ≠ .frz ob u) : ∀ a xs, Rd (upd H p o) a (.lst xs) → xs.length ≤ sizeLine := fun c xs q => by
  by_cases e : c = p
  · subst e
    rcases q with q | ⟨ob, q⟩
    · rw [upd_same] at q; exact hl xs (Option.some.inj q)
    · rw [upd_same] at q; exact absurd (Option.some.inj q) (hz _ _)
  · rcases q with q | ⟨ob, q⟩
    · rw [upd_ne e] at q; exact h c xs (.inl q)
    · rw [upd_ne e] at q; exact h c xs (.inr ⟨ob, q⟩)
theorem wft_upd (h : ∀ a xs, SqT K H a xs → xs.length ≤ sizeLine) (ht : ∀ xs, o ≠ .tup xs) (hz : ∀ ob u, o ≠ .frz ob u) : ∀ a xs, SqT K (upd H p o) a xs → xs.length ≤ sizeLine := fun c xs q => by
  by_cases e : c = p
  · subst e
    rcases q with (q | ⟨ob, q⟩) | q
    · rw [upd_same] at q; exact absurd (Option.some.inj q) (ht _)
    · rw [upd_same] at q; exact absurd (Option.some.inj q) (hz _ _)
    · exact h _ xs (.inr q)
  · rcases q with (q | ⟨ob, q⟩) | q
    · rw [upd_ne e] at q; exact h c xs (.inl (.inl q))
    · rw [upd_ne e] at q; exact h c xs (.inl (.inr ⟨ob, q⟩))
    · exact h c xs (.inr q)
/-- a thing becomes the store's -/
theorem ws_claim (w : WS K W H S) (f : Free W H p) (m : MOk K (W.push p) (upd H p o) p mo) (hl : ∀ xs, o = .lst xs → xs.length ≤ sizeLine) (ht : ∀ xs, o ≠ .tup xs) (hz : ∀ ob u, o ≠ .frz ob u) : WS K (W.push p) (upd H p o) (S ++ [mo]) := by
  have P : Pre K W H (W.push p) (upd H p o) := (free_pre f).trans pre_push
  refine ⟨by rw [List.length_append, List.length_singleton, w.len]; rfl, fun j u e => ?_, fun i j h1 h2 z => ?_, fun i hi g => ?_, fun a g => ?_, wf_upd w.wf hl hz, wft_upd w.wft ht hz⟩
  · by_cases hj : j < S.length
    · rw [List.getElem?_append_left hj] at e
      have hj' : j < W.n := by rw [← w.len]; exact hj
      rw [push_old hj']
      exact (w.ob j u e).pre P (upd_ne (f.ns j hj'))
    · rw [List.getElem?_append_right (Nat.le_of_not_lt hj)] at e
      have hj2 : j = W.n := by
        rw [← w.len]
        have := (List.getElem?_eq_some_iff.mp e).1
        rw [List.length_singleton] at this
        omega
      subst hj2
      rw [← w.len, Nat.sub_self] at e
      cases e
      rw [push_new]
      exact m
  · by_cases e1 : i = W.n
    · by_cases e2 : j = W.n
      · rw [e1, e2]
      · have hj : j < W.n := by have : j < W.n + 1 := h2; omega
        rw [e1, push_new, push_old hj] at z
        exact absurd z.symm (f.ns j hj)
    · have hi : i < W.n := by have : i < W.n + 1 := h1; omega
      by_cases e2 : j = W.n
      · rw [e2, push_new, push_old hi] at z
        exact absurd z (f.ns i hi)
      · have hj : j < W.n := by have : j < W.n + 1 := h2; omega
        rw [push_old hi, push_old hj] at z
        exact w.inj i j hi hj z
  · by_cases e1 : i = W.n
    · rw [e1, push_new] at g
      exact f.nf g
    · have hi' : i < W.n := by have : i < W.n + 1 := hi; omega
      rw [push_old hi'] at g
      exact w.nfz i hi' g
  · by_cases e : a = p
    · rw [e, upd_same]; exact fun z => by cases z
    · rw [upd_ne e]; exact w.fz a g
theorem le_claim (l : Le W0 H0 W H) (h0 : H0 p = none) : Le W0 H0 (W.push p) (upd H p o) where
  keep := fun b u e h => by rw [upd_ne (ne_of_none e h0)]; exact l.keep b u e h
  sto := fun i hi => by
    by_cases e : W0.μ i = p
    · rw [e, upd_same]; exact fun z => by cases z
    · rw [upd_ne e]; exact l.sto i hi
  n := Nat.le_trans l.n (Nat.le_succ _)
  mu := fun i hi => (push_old (Nat.lt_of_lt_of_le hi l.n)).trans (l.mu i hi)
  fz := l.fz
  fz' := l.fz'
  new := fun i h1 h2 => by
    by_cases e : i = W.n
    · rw [e, push_new]; exact h0
    · have hi : i < W.n := by have : i < W.n + 1 := h2; omega
      rw [push_old hi]; exact l.new i h1 hi
  w := l.w
theorem sto_preM {i : Nat} (w : WS K W H S) (hi : i < W.n) : Pre K W H W (upd H (W.μ i) o) where
  tup := fun c xs q => by
    obtain ⟨u, hp, n1, n2⟩ := w.mutAt hi
    rcases q with (q | ⟨ob, q⟩) | q
    · exact .inl (.inl (by rw [upd_ne fun z => by rw [z, hp] at q; exact n1 _ (Option.some.inj q)]; exact q))
    · exact .inl (.inr ⟨ob, by rw [upd_ne fun z => by rw [z, hp] at q; exact n2 _ _ (Option.some.inj q)]; exact q⟩)
    · exact .inr q
  fz := fun _ f => f
  frz := fun c xs f q => by
    have ne : c ≠ W.μ i := fun z => w.nfz i hi (by rw [← z]; exact f)
    rcases q with q | ⟨ob, q⟩
    · exact .inl (by rw [upd_ne ne]; exact q)
    · exact .inr ⟨ob, by rw [upd_ne ne]; exact q⟩
  n := Nat.le_refl _
  mu := fun _ _ => rfl
  w := rfl
theorem le_sto {i : Nat} (w : WS K W H S) (hi : i < W.n) : Le W H W (upd H (W.μ i) o) :=
  ⟨fun b u e h => by rw [upd_ne (fun z => h i hi z.symm)]; exact e, fun j hj => by
    by_cases e : W.μ j = W.μ i
    · rw [e, upd_same]; exact fun z => by cases z
    · rw [upd_ne e]; exact w.some hj, Nat.le_refl _, fun _ _ => rfl, fun _ h => h, fun _ h => .inl h, fun j h1 h2 => absurd (Nat.lt_of_le_of_lt h1 h2) (Nat.lt_irrefl _), rfl⟩
theorem ws_sto {i : Nat} (w : WS K W H S) (hi : i < W.n) (m : MOk K W (upd H (W.μ i) o) (W.μ i) mo) (hl : ∀ xs, o = .lst xs → xs.length ≤ sizeLine) (ht : ∀ xs, o ≠ .tup xs) (hz : ∀ ob u, o ≠ .frz ob u) : WS K W (upd H (W.μ i) o) (S.set i mo) := by
  have P : Pre K W H W (upd H (W.μ i) o) := sto_preM w hi
  have hS : i < S.length := by rw [w.len]; exact hi
  refine ⟨by rw [List.length_set]; exact w.len, fun j u e => ?_, w.inj, w.nfz, fun a f => ?_, wf_upd w.wf hl hz, wft_upd w.wft ht hz⟩
  · by_cases q : j = i
    · subst q
      rw [List.getElem?_set_self hS] at e
      cases e
      exact m
    · rw [List.getElem?_set_ne (Ne.symm q)] at e
      have hj : j < W.n := by rw [← w.len]; exact (List.getElem?_eq_some_iff.mp e).1
      exact (w.ob j u e).pre P (upd_ne fun z => q (w.inj j i hj hi z))
  · by_cases e : a = W.μ i
    · rw [e, upd_same]; exact fun z => by cases z
    · rw [upd_ne e]; exact w.fz a f
theorem Rel.writeM {i : Nat} (r : Rel K E W H ρ σ S) (hi : i < W.n) (m : MOk K W (upd H (W.μ i) o) (W.μ i) mo) (hl : ∀ xs, o = .lst xs → xs.length ≤ sizeLine) (ht : ∀ xs, o ≠ .tup xs) (hz : ∀ ob u, o ≠ .frz ob u) :
    Rel K E W (upd H (W.μ i) o) ρ σ (S.set i mo) := r.step (le_sto r.ws hi) (ws_sto r.ws hi m hl ht hz)
end
section
variable {X : Cx} {g : G} {C : Call} {ev : Str → Value} {E : Ent} {N : List Str} {sc : Scope} {Xw : Str → L2.St → Hp → Prop} {k : Nat} {pins : List (Addr × Obj)} {σ : L2.St} {H : Hp} {s : Shared}
/-- [], to be changed by many -/
theorem den_lst0 {pos : Pos} : PE X (.List [] pos) (tE X.K E Xw fun _ S => .ok (.ref S.length) (S ++ [.lst []])) :=
  (pe_lst pa_nil).wk fun σ H Q ⟨W, ρ, S, rel, res⟩ => ⟨Nat.zero_le _, fun p hp => by
    have f := free_none rel.ws hp
    refine res (W.push p) _ (le_claim rel.ws.refl hp) (ws_claim rel.ws f ⟨[], upd_same, .nil⟩ (fun xs e => by cases e; exact Nat.zero_le _) (fun _ e => by cases e) (fun _ _ e => by cases e)) _ ?_
    have e : (W.push p).μ S.length = p := by rw [rel.ws.len]; exact push_new
    have r : Rep X.K (W.push p) (upd H p (.lst [])) (.ref S.length) (.ref ((W.push p).μ S.length)) := .ref (by rw [rel.ws.len]; exact Nat.lt_succ_self _)
    rw [e] at r
    exact r⟩
/-- [], looked at and dropped -/
theorem den_nilF {pos : Pos} : PE X (.List [] pos) (tE X.K E Xw fun _ S => .ok (.lst []) S) :=
  (den_lst den_anil).wk fun σ H Q ⟨W, ρ, S, rel, res⟩ => ⟨W, ρ, S, rel, res⟩
/-- the empty dict's object -/
abbrev noDic : Obj := { cls := .type "dict", data := .dict #[] }
abbrev atO (p : Addr) (o : Obj) : HO := .ext fun h => h.get? p = some o
theorem noDic_ok {W : Wd} {K : PySem.W.Frag} {p : Addr} (e : H p = some (atO p noDic)) (big : sysModules < p) : DicAt K W H p [] :=
  ⟨noDic, #[], 0, [], e, ⟨rfl, rfl, rfl⟩, rfl, beq_eq_false_iff_ne.mpr (Ne.symm (Nat.ne_of_lt big)), Nat.zero_le _, rfl, List.nodup_nil, .nil⟩
theorem new_dic (I : Inv X pins σ H s) : Inv X pins σ (upd H s.heap.objs.size (atO s.heap.objs.size noDic)) { s with heap := s.heap.push noDic } :=
  I.laid (a := s.heap.objs.size) (t' := s.toks) (fun _ _ e => Heap.get?_push_of_some _ e) (Nat.le_refl _) (ext_ok (Heap.get?_push_size _ rfl))
theorem den_dict0 {pos : Pos} : PE X (.Dict [] [] pos) (tE X.K E Xw fun _ S => .ok (.ref S.length) (S ++ [.dic []])) := ⟨fun pins s σ H Q I ⟨W, ρ, S, rel, res⟩ => by
  have hp := I.hok.fresh (Nat.le_refl s.heap.objs.size)
  have J := new_dic I
  refine wpAny_Dict_empty ⟨.ref s.heap.objs.size, _, J, rfl, ?_⟩
  refine res (W.push s.heap.objs.size) _ (le_claim rel.ws.refl hp) (ws_claim rel.ws (free_none rel.ws hp) (noDic_ok upd_same I.big) (fun _ e => by cases e) (fun _ e => by cases e) (fun _ _ e => by cases e)) _ ?_
  have e : (W.push s.heap.objs.size).μ S.length = s.heap.objs.size := by rw [rel.ws.len]; exact push_new
  have r : Rep X.K (W.push s.heap.objs.size) (upd H s.heap.objs.size (atO s.heap.objs.size noDic)) (.ref S.length) (.ref ((W.push s.heap.objs.size).μ S.length)) := .ref (by rw [rel.ws.len]; exact Nat.lt_succ_self _)
  rw [e] at r
  exact r⟩
theorem _root_.Lw.Res.bindAt {α β : Type} {K : PySem.W.Frag} {X : Str → L2.St → Hp → Prop} {W W1 : Wd} {H H1 : Hp} {ρ : Ev} {r : R α} {f : α → Sto → R β} {P : β → Sto → Wd → Hp → Prop} (L : Le W H W1 H1) (h : Res K E X W H ρ σ (r.bind f) P) :
    Res K E X W1 H1 ρ σ r fun a S1 _ _ => Res K E X W H ρ σ (f a S1) P := by
  cases r with
  | ok a S' => exact fun _ _ _ _ => h
  | err c S' => exact fun W' H' l w => h W' H' (L.trans l) w
  | bad => exact h
/-- a display, its pairs made while the dict stands empty -/
theorem disp_at {A : Around} {Ex : Value → Shared → Prop} {prog : Program} {w : World} {env : Env} {keys : List (Option Expr)} {values : List Expr} {pos : Pos} {l : List (Sem Value × Sem Value)} {Q : Value → Shared → Prop} (room : (nestedKind prog w).room A)
    (sh : (evalEachOpt keys env).zip ((evalEach values env).map fun v => do let x ← v; standAt pos; pure x) = l.map fun p => (some p.1, p.2)) (ne : l ≠ []) (few : l.length ≤ 15)
    (h : wpAny (model prog w) A (evalPairs l) (fun vs s1 => ∃ ps, CarriesH (nestedKind prog w) s1.heap vs ps ∧ s1.heap.DictOfH (nestedKind prog w) s.heap.objs.size [] ∧
      ∀ h' tk, h'.DictOfH (nestedKind prog w) s.heap.objs.size (storedAllH [] ps) → Heap.SameBut s.heap.objs.size s1.heap h' → Q (.ref s.heap.objs.size) { s1 with heap := h', toks := tk }) Ex { s with heap := s.heap.push noDic }) :
    wpAny (model prog w) A (eval (.Dict keys values pos) env) Q Ex s := by
  rw [arm_eval_Dict, sh, dictDisplay_pairs l ne (by omega)]
  refine wpAny_bind (wpAny_standAt (wpAny_bind ?_))
  refine wpAny_subDictH (Q := fun d s2 => wpAny (model prog w) A (pure (Value.ref d)) Q Ex s2) room few ?_
  refine wpAny_mono h (fun vs s1 q => ?_) fun _ _ e => e
  obtain ⟨ps, q1, q2, q3⟩ := q
  exact ⟨ps, q1, q2, fun h' tk a b => wpAny_pure (q3 h' tk a b)⟩
theorem room_0 (hu : X.A.units + 65 < cLine) : (nestedKind X.prog X.w).room X.A := by
  show X.A.units + 8 < cLine
  omega
variable {fa fb : Ev → Sto → R D}
theorem den_dict1 {a b : Expr} {pos : Pos} (hw : E.W.w = X.w) (hu : X.A.units + 65 < cLine) (ha : PE X a (tE X.K E Xw fa)) (hb : PE X b (tE X.K E Xw fb)) :
    PE X (.Dict [some a] [b] pos) (tE X.K E Xw fun ρ S => (fa ρ S).bind fun k S1 => (fb ρ S1).bind fun v S2 => if (keyD k).isSome then .ok (.ref S2.length) (S2 ++ [.dic [(k, v)]]) else .bad) := ⟨fun pins s σ H Q I ⟨W, ρ, S, rel, res⟩ => by
  have hp := I.hok.fresh (Nat.le_refl s.heap.objs.size)
  have J := new_dic I
  have big := I.big
  obtain ⟨p, hpp⟩ : ∃ p, p = s.heap.objs.size := ⟨_, rfl⟩
  rw [← hpp] at hp J big
  have L1 := le_new (K := X.K) rel.ws hp (atO p noDic) W rfl rfl rfl (fun _ h => h) (fun _ h => .inl h)
  have w1 := ws_new rel.ws hp (atO p noDic) W rfl rfl rfl (fun _ h => h) (fun _ h => .inl h) (fun xs e => by cases e) (fun xs e => by cases e) (fun _ _ e => by cases e)
  have rel1 := rel.step L1 w1
  have run := (pps_cons (pos := pos) ha hb (pps_nil (X := X) (pos := pos))).run pins _ σ _ (fun ps H2 => ∃ kd vd x y S2 W2, ps = [(x, y)] ∧ Le W (upd H p (atO p noDic)) W2 H2 ∧ WS X.K W2 H2 S2 ∧ Rep X.K W2 H2 kd x ∧ Rep X.K W2 H2 vd y ∧
      Res X.K E Xw W H ρ σ (if (keyD kd).isSome then .ok (.ref S2.length) (S2 ++ [.dic [(kd, vd)]]) else .bad) (fun d _ W' H' => ∀ v, Rep X.K W' H' d v → Q v H')) J
    ⟨W, ρ, S, rel1, (Res.bindAt L1 res).mono fun kd S1 W1 H1 l1 w1 p1 x rx => ⟨W1, ρ, S1, rel1.step l1 w1, (Res.bindAt (L1.trans l1) p1).mono fun vd S2 W2 H2 l2 w2 p2 y ry => ⟨kd, vd, x, y, S2, W2, rfl, l1.trans l2, w2, rx.pre (l2.pre w1), ry, p2⟩⟩⟩
  refine disp_at (room_0 hu) (l := pairTrees [some a] [b] X.env pos) rfl (by simp [pairTrees]) (by simp [pairTrees]) (wpAny_mono run (fun ws s2 q => ?_) fun _ _ e => e)
  rw [← hpp]
  obtain ⟨ps, H2, I2, vv, kd, vd, x, y, S2, W2, rfl, l2, w2, rk, rv, fin⟩ := q
  cases vv with
  | @cons _ q _ qs hq hqs =>
    cases hqs
    obtain ⟨kv, vw⟩ := q
    obtain ⟨rx, ry⟩ := hq
    cases hk : keyD kd with
    | none => rw [hk] at fin; exact False.elim fin
    | some kk =>
      rw [hk] at fin
      obtain ⟨⟨ds, rfl⟩, _, _⟩ := keyD_some hk
      have hp2 : H2 p = some (atO p noDic) := l2.keep p _ upd_same fun i hi z => rel.ws.some hi (by rw [z]; exact hp)
      have fr : Free W2 H2 p := by
        refine ⟨fun o e => ?_, fun f => ?_, fun i hi z => ?_⟩
        · rw [hp2] at e; cases e
          exact ⟨fun _ z => (by cases z), fun _ _ z => (by cases z)⟩
        · rcases l2.fz' p f with q | q
          · exact rel.ws.fz p q hp
          · rw [upd_same] at q; cases q
        · by_cases hl : i < W.n
          · exact rel.ws.some hl (by rw [← l2.mu i hl, z]; exact hp)
          · have q := l2.new i (Nat.le_of_not_lt hl) hi
            rw [z, upd_same] at q; cases q
      have w2w : W2.w = X.w := l2.w.trans (rel.w hw)
      cases rk with
      | @tup bk vs _ g r =>
        have rk : Rep X.K W2 H2 (.tup ds) (.ref bk) := .tup g r
        cases (show kv = Value.ref bk from rx)
        refine ⟨[(kk, bk, vw)], ⟨rfl, rfl, key_is I2 hk rk, trivial⟩, ⟨noDic, #[], 0, (I2.hok p _ hp2).1, ⟨rfl, rfl, rfl⟩, rfl, rfl, (fun _ z => by cases z), List.nodup_nil⟩, fun h' tk dd sb => ?_⟩
        have ex : storedAllH [] [(kk, bk, vw)] = [(kk, bk, vw)] := by simp [storedAllH, storedH, atKey]
        rw [ex] at dd
        obtain ⟨o, es, ep, g1, g2, g3, g4, g5, g6⟩ := dd
        have I3 := d_write (t' := tk) I2 (a := p) (ob := atO p o) (by rw [hp2]; exact True.intro) sb ⟨o, g1⟩ (ext_ok g1)
        have fp := free_pre (K := X.K) (o := atO p o) fr
        have PP := fp.trans (pre_push (p := p))
        have L2 : Le W H (W2.push p) (upd H2 p (atO p o)) := le_claim (L1.trans l2) hp
        refine ⟨.ref p, _, I3, rfl, ?_⟩
        have e9 : (W2.push p).μ S2.length = p := by rw [w2.len]; exact push_new
        have r9 : Rep X.K (W2.push p) (upd H2 p (atO p o)) (.ref S2.length) (.ref ((W2.push p).μ S2.length)) := .ref (by rw [w2.len]; exact Nat.lt_succ_self _)
        rw [e9] at r9
        refine fin (W2.push p) _ L2 (ws_claim w2 fr ⟨o, es, ep, [(kk, bk, vw)], upd_same, g2, g3, beq_eq_false_iff_ne.mpr (Ne.symm (Nat.ne_of_lt big)), ?_, ?_, g6, .cons ⟨hk, rk.pre PP, y, ry, rv.pre PP⟩ .nil⟩ (fun _ e => by cases e) (fun _ e => by cases e) (fun _ _ e => by cases e)) _ r9
        · show 1 ≤ sizeLine
          decide
        · rw [g4]
          show _ = List.map (entN W2.w) _
          rw [w2w]
          rfl⟩
/-- x[i] = v: a list's place, a key of a dict -/
def rSetX (K : PySem.W.Frag) (w : World) : TSet := fun o i v H Q => rSetL o i v H Q ∨ ∃ W a kvs d x kk b, o = .ref a ∧ i = .ref b ∧ W.w = w ∧ DicAt K W H a kvs ∧ keyD d = some kk ∧ Rep K W H d (.ref b) ∧ Rep K W H x v ∧ kvs.length < LINE ∧
  (∀ ob, Pre K W H W (upd H a (atO a ob))) ∧ ∀ ob, DicAt K W (upd H a (atO a ob)) a (putKV kvs kk d x) → Q (upd H a (atO a ob))
theorem set_X (hu : X.A.units + 65 < cLine) : PSet X (rSetX X.K X.w) := by
  intro pins s σ H o i v ov iv u Q I ro ri rv h
  rcases h with h | ⟨W, a, kvs, d, x, kk, b, rfl, rfl, hw, m, hd, rk, rx, hl, pre, q⟩
  · exact set_list pins s σ H o i v ov iv u Q I ro ri rv h
  cases (show ov = Value.ref a from ro)
  cases (show iv = Value.ref b from ri)
  obtain ⟨ns, _, xs, pr, dd⟩ := m.heap I hw
  obtain ⟨o0, es0, ep0, xs0, g0, _⟩ := m
  have hz : xs.length ≤ sizeLine := by
    rw [← Paired.length pr, size_line]; omega
  refine wpAny_setItem_heap (hsz := hz) (room_n hu) (key_is I hd rk) dd fun h' dd' sb => ?_
  obtain ⟨ob, es, ep, g1, g2, g3, g4, g5, g6⟩ := dd'
  have J := d_write (t' := s.toks + (nestedKind X.prog X.w).draws kk) I (a := a) (ob := atO a ob) (by rw [g0]; exact True.intro) sb ⟨ob, g1⟩ (ext_ok g1)
  refine ⟨_, J, q ob ⟨ob, es, ep, storedH xs kk b u, upd_same, g2, g3, ns, ?_, ?_, g6, ?_⟩⟩
  · have := put_len kvs kk d x
    rw [size_line]; omega
  · rw [g4, hw]
    rfl
  · have P := pre ob
    exact put_rel hd (rk.pre P) ⟨v, rv, rx.pre P⟩ (L2.Paired.mapP pr fun _ _ z => z.pre P)
end
end Lw
set_option maxHeartbeats 2000000
/-! LwZ: objects: attributes, methods, new ones; lists of the store that give their last. -/
namespace Lw
open PySem PySem.Spec PyProof.Rows L2
section
variable {X : Cx} {g : G} {C : Call} {ev : Str → Value} {E : Ent} {N : List Str} {sc : Scope} {Xw : Str → L2.St → Hp → Prop} {k : Nat} {fa : Ev → Sto → R D}
theorem flds_get {K : PySem.W.Frag} {W : Wd} {H : Hp} : ∀ {fs : List (Str × D)} {gs : List (Str × V)} {f : Str} {d : D}, Paired (FldOk K W H) fs gs → fs.lookup f = some d → ∃ v, gs.lookup f = some v ∧ Rep K W H d v
  | _, _, _, _, .nil, e => by cases e
  | (a, x) :: fs, (b, y) :: gs, f, d, .cons r t, e => by
    have hab : a = b := r.nm
    subst hab
    have e2 : (match f == a with | true => some x | false => fs.lookup f) = some d := e
    cases q : f == a with
    | true =>
      rw [q] at e2
      cases e2
      exact ⟨y, by show (match f == a with | true => some y | false => gs.lookup f) = _; rw [q], r.rep⟩
    | false =>
      rw [q] at e2
      obtain ⟨v, h1, h2⟩ := flds_get t e2
      exact ⟨v, by show (match f == a with | true => some y | false => gs.lookup f) = _; rw [q]; exact h1, h2⟩
theorem flds_no {K : PySem.W.Frag} {W : Wd} {H : Hp} : ∀ {fs : List (Str × D)} {gs : List (Str × V)} {f : Str}, Paired (FldOk K W H) fs gs → fs.lookup f = none → gs.lookup f = none
  | _, _, _, .nil, _ => rfl
  | (a, x) :: fs, (b, y) :: gs, f, .cons r t, e => by
    have hab : a = b := r.nm
    subst hab
    have e2 : (match f == a with | true => some x | false => fs.lookup f) = none := e
    cases q : f == a with
    | true => rw [q] at e2; cases e2
    | false =>
      rw [q] at e2
      show (match f == a with | true => some y | false => gs.lookup f) = _
      rw [q]
      exact flds_no t e2
theorem flds_put {K : PySem.W.Frag} {W : Wd} {H : Hp} {f : Str} {d : D} {v : V} (rv : Rep K W H d v) : ∀ {fs : List (Str × D)} {gs : List (Str × V)}, Paired (FldOk K W H) fs gs → Paired (FldOk K W H) (putS f d fs) (putF f v gs)
  | _, _, .nil => .cons ⟨rfl, rv⟩ .nil
  | (a, x) :: fs, (b, y) :: gs, .cons r t => by
    have hab : a = b := r.nm
    subst hab
    have e1 : putS f d ((a, x) :: fs) = if a = f then (f, d) :: fs else (a, x) :: putS f d fs := rfl
    have e2 : putF f v ((a, y) :: gs) = if a = f then (a, v) :: gs else (a, y) :: putF f v gs := rfl
    rw [e1, e2]
    by_cases h : a = f
    · rw [if_pos h, if_pos h]; exact .cons ⟨h.symm, rv⟩ t
    · rw [if_neg h, if_neg h]; exact .cons r (flds_put rv t)
theorem flds_len {K : PySem.W.Frag} {W : Wd} {H : Hp} : ∀ {fs : List (Str × D)} {gs : List (Str × V)}, Paired (FldOk K W H) fs gs → fs.length = gs.length := fun p => Paired.length p
/-- an object of the store -/
theorem ws_ins {K : PySem.W.Frag} {W : Wd} {H : Hp} {S : Sto} {i : Nat} {c : Str} {fs : List (Str × D)} (w : WS K W H S) (e : S[i]? = some (.ins c fs)) : i < W.n ∧ ∃ dx gs, H (W.μ i) = some (.ins (He.ga K c) dx gs) ∧ Paired (FldOk K W H) fs gs :=
  ⟨by rw [← w.len]; exact (List.getElem?_eq_some_iff.mp e).1, w.ob i _ e⟩
theorem repT_ref {K : PySem.W.Frag} {W : Wd} {H : Hp} {i : Nat} {v : V} (r : RepT K W H (.ref i) v) : i < W.n ∧ v = .ref (W.μ i) := by
  rcases r with r | ⟨_, _, _, e, _⟩
  · cases r with
    | ref h => exact ⟨h, rfl⟩
  · cases e
theorem base_b {o : Expr} {m : Str} {env : Env} (h : baseB o = true) : attributeBase o m env (eval o env) = eval o env := by
  cases o with
  | Call f es ks p =>
    cases f with
    | Name x q =>
      cases es with
      | nil =>
        cases ks with
        | nil => cases h
        | cons _ _ => rfl
      | cons _ _ => rfl
    | _ => rfl
  | _ => rfl
theorem fldD_some {x d : D} {f : Str} {S : Sto} (h : fldD g x f S = some d) : ∃ i c fs, x = .ref i ∧ S[i]? = some (.ins c fs) ∧ g.fld c f = true ∧ fs.lookup f = some d := by
  unfold fldD at h
  split at h
  · split at h
    · split at h
      · rename_i e1 e2; exact ⟨_, _, _, rfl, e1, e2, h⟩
      · cases h
    · cases h
  · cases h
theorem methD_some {x : D} {m q : Str} {S : Sto} (h : methD g x m S = some q) : ∃ i c fs, x = .ref i ∧ S[i]? = some (.ins c fs) ∧ fs.lookup m = none ∧ g.mt c m = some q := by
  unfold methD at h
  split at h
  · split at h
    · split at h
      · rename_i e1 e2; exact ⟨_, _, _, rfl, e1, Option.isNone_iff_eq_none.mp e2, h⟩
      · cases h
    · cases h
  · cases h
/-- o.f -/
theorem den_fld {o : Expr} {f : Str} {pos : Pos} (c : Cok X g C ev E N sc Xw k) (hb : baseB o = true) (ho : PE X o (tT X.K E Xw fa)) : PE X (.Attribute o f pos) (tE X.K E Xw fun ρ S => (fa ρ S).bind fun x S1 => R.opt (fldD g x f S1) S1) := by
  refine (pe_fld ho (base_b hb)).wk fun σ H Q ⟨W, ρ, S, rel, res⟩ => ⟨W, ρ, S, rel, (Res.bind res).mono fun d S1 W1 H1 l1 w1 p v rv => ?_⟩
  obtain ⟨d', e, q⟩ := p.opt
  obtain ⟨i, cn, fs, rfl, e1, e2, e3⟩ := fldD_some e
  obtain ⟨hi, rfl⟩ := repT_ref rv
  obtain ⟨_, dx, gs, hH, pr⟩ := ws_ins w1 e1
  obtain ⟨u, h1, h2⟩ := flds_get pr e3
  obtain ⟨k1, k2⟩ := c.fld cn f e2
  exact ⟨_, _, dx, gs, u, rfl, hH, k1, k2, h1, q W1 H1 w1.refl w1 u h2⟩
/-- a method's call, to the method -/
theorem methodCall_wp {M : Model} {A : Around} {Er : Value → Shared → Prop} {s : Shared} {env : Env} {o : Expr} {name : Str} {apos pos : Pos} {args : List Expr} {Q : Value → Shared → Prop} (hbase : attributeBase o name env (eval o env) = eval o env)
    (hform : methodCallForm (args.length + ([] : List Keyword).length) (backTo pos (starEach args env)) (backToKw pos (keywordEach [] env)) = true) (hline : (apos.endLine == pos.line) = true)
    (h : wpAny M A (eval o env) (fun ov s1 => wpAny M A (getMethod ov name (do return (← importBound o env).getD true)) (fun fx s2 => wpAny M A (callWith pos fx.1 fx.2 (backTo pos (starEach args env)) (backToKw pos (keywordEach [] env))) Q Er s2) Er s1) Er s) :
    wpAny M A (eval (.Call (.Attribute o name apos) args [] pos) env) Q Er s := by
  rw [arm_eval_Call, hbase]
  refine wpAny_bind (wpAny_mono h (fun ov s₁ h₁ => ?_) fun _ _ e => e)
  refine wpAny_bind (wpAny_standAt ?_)
  have hpos : methodCallPos true o env apos pos = pure pos := by unfold methodCallPos; simp [hline]
  unfold methodCall
  rw [hform]
  refine wpAny_bind (wpAny_holding ?_)
  show wpAny M A (getMethod ov name (do return (← importBound o env).getD true)) _ _ _
  refine wpAny_mono h₁ (fun fx s2 h2 => ?_) fun _ _ x => x
  exact wpAny_bind (wpAny_of_eq hpos h2)
theorem form_ok {env : Env} {es : List Expr} {pos : Pos} (h : es.all notStar = true) (hl : es.length < 20) : methodCallForm (es.length + ([] : List Keyword).length) (backTo pos (starEach es env)) (backToKw pos (keywordEach [] env)) = true := by
  unfold methodCallForm
  have h1 : (backTo pos (starEach es env)).all (fun x => !x.1) = true := by
    have q := back_plain (env := env) (pos := pos) h
    rw [List.all_eq_true]
    intro x hx
    have z := List.any_eq_false.mp q x hx
    simpa using z
  rw [h1]
  have h2 : (backToKw pos (keywordEach [] env)) = [] := rfl
  rw [h2]
  simp
  omega
/-- a def of such promises runs -/
theorem run_callG {f : Addr} {dat : FuncData} {names : List Str} {sp : Sp} {Ex : L2.St → XK} {pins : List (Addr × Obj)} {s : Shared} {σ : L2.St} {H : Hp} {Q : VK} {us : List Value} {vs : List V} (F : FnG X.prog X.w X.K X.mg X.base k f dat names sp) (room : Rm (2 * k) X.A) (gd : X.A.guards = some [])
    (bd : Binds X.K dat names []) (out : ∀ σ, PassesAt (CXA X.prog X.w) X σ (Ex σ)) (I : Inv X pins σ H s) (r : Vals vs us) (q : sp vs H Q (Ex σ)) : wpAny (model X.prog X.w) X.A (call (.ref f) us) (EP X pins σ Q) X.xe s := by
  have b := bd s us I.kIn (by rw [List.append_nil, ← r.length]; exact F.len q)
  rw [List.append_nil] at b
  refine wpAny_call (codeAny_mono (F.run (args := ⟨us, []⟩) room gd I.env0 b r q) ?_)
  rintro (err | fl) s' hq
  · exact out σ pins H s err s' I hq
  · cases fl with
    | ret u => exact I.after hq
    | _ => exact hq.elim
/-- what a method's promise asks -/
theorem spD_of {K : PySem.W.Frag} {w0 : World} {np : Nat} {W : Wd} {H : Hp} {S : Sto} {ds : List D} {vs : List V} {σ : L2.St} {ρ : Ev} {Q : VK} {f : List D → Sto → R D} (hw : W.w = w0) (ws : WS K W H S) (rs : Reps K W H ds vs) (hl : vs.length = np)
    (res : Res K E Xw W H ρ σ (f ds S) fun d _ W' H' => ∀ v, Rep K W' H' d v → Q v H') : spD K w0 ev np f vs H Q (WE (wxOf ev Xw) σ) := by
  refine ⟨hl, W, S, ds, hw, ws, rs, ?_⟩
  cases z : f ds S with
  | ok d S' => rw [z] at res; exact res
  | err cc S' => rw [z] at res; exact fun W' H' l w => ⟨cc, rfl, rfl, res W' H' l w⟩
  | bad => rw [z] at res; exact res
/-- o.m(e, ..) of an object -/
theorem den_meth {o e : Expr} {es : List Expr} {m : Str} {apos pos : Pos} {fs : Ev → Sto → R (List D)} (c : Cok X g C ev E N sc Xw k) (hb : baseB o = true) (hline : (apos.endLine == pos.line) = true) (hn : (e :: es).all notStar = true) (hl : (e :: es).length < 20)
    (ho : PE X o (tT X.K E Xw fa)) (ha : PA X (e :: es) (tA X.K E Xw fs)) :
    PE X (.Call (.Attribute o m apos) (e :: es) [] pos) (tE X.K E Xw fun ρ S => (fa ρ S).bind fun x S1 => (match methD g x m S1 with
              | some q => (fs ρ S1).bind fun ds S2 => C q (x :: ds) S2
              | none => .bad)) := by
  refine ⟨fun pins s σ H Q I ⟨W, ρ, S, rel, res⟩ => ?_⟩
  have hs := Bool.and_eq_true_iff.mp (show (notStar e && es.all notStar) = true from hn)
  refine methodCall_wp (base_b hb) (form_ok hn hl) hline (thn (ho.run pins s σ H (fun v H1 => ∃ (i : Nat) (W1 : Wd) (S1 : Sto) (cn q : Str) (fs1 : List (Str × D)), v = .ref (W1.μ i) ∧ S1[i]? = some (.ins cn fs1) ∧ fs1.lookup m = none ∧ g.mt cn m = some q ∧ Rel X.K E W1 H1 ρ σ S1 ∧
    Res X.K E Xw W1 H1 ρ σ ((fs ρ S1).bind fun ds S2 => C q (.ref i :: ds) S2) fun d _ W' H' => ∀ v, Rep X.K W' H' d v → Q v H') I ⟨W, ρ, S, rel, (Res.bind res).mono fun d S1 W1 H1 l1 w1 p v rv => ?_⟩) ?_)
  · cases z : methD g d m S1 with
    | none => rw [z] at p; exact False.elim p
    | some q =>
      rw [z] at p
      obtain ⟨i, cn, fs1, rfl, e1, e2, e3⟩ := methD_some z
      obtain ⟨hi, rfl⟩ := repT_ref rv
      exact ⟨i, W1, S1, cn, q, fs1, rfl, e1, e2, e3, rel.step l1 w1, p⟩
  · rintro u s1 ⟨v, H1, I1, rv, i, W1, S1, cn, q, fs1, rfl, e1, e2, e3, rel1, res1⟩
    obtain rfl : u = Value.ref (W1.μ i) := rv
    obtain ⟨hi, dx, gs, hH, pr⟩ := ws_ins rel1.ws e1
    obtain ⟨fd, f, fdat, m1, m2, m3, m4, m5, m6⟩ := c.mts cn m q e3
    refine getmeth_ok I1 hH m2 m3 (flds_no pr e2) ?_
    refine PySem.W.callWith_K (first := [.ref (W1.μ i)]) (h₀ := X.base) I1.ok.mod.kin m3.kp ?_ (star_ok hs.1) (back_plain hs.2)
    refine thn (ha.run pos pins s1 σ H1 (fun vs H2 => spD X.K X.w ev fd.ps.length (C q) (.ref (W1.μ i) :: vs) H2 Q (WE (wxOf ev Xw) σ)) I1 ⟨W1, ρ, S1, rel1, (Res.bind res1).mono fun ds S2 W2 H2 l2 w2 p vs rvs => ?_⟩) ?_
    · have rr : Rep X.K W2 H2 (.ref i) (.ref (W1.μ i)) := by
        have q := Rep.pre (l2.pre rel1.ws) (Rep.ref (K := X.K) (H := H1) hi)
        exact q
      refine spD_of (l2.w.trans (rel1.w c.ew)) w2 (.cons rr rvs) ?_ p
      have := m6 (.ref i :: ds) S2 fun z => by rw [z] at p; exact p
      rw [← this, List.length_cons, List.length_cons, rvs.length]
    · rintro us s2 ⟨vs, H2, I2, r2, q2⟩
      exact ⟨I2.kIn, run_callG m5 (c.room.mono (Nat.le_succ _)) c.gd m4 (Ex := WE (wxOf ev Xw)) (fun σ => passA c.tk σ) I2 (us := .ref (W1.μ i) :: us) (vs := .ref (W1.μ i) :: vs) (.cons rfl r2) q2⟩
/-- o.m() of an object -/
theorem den_meth0 {o : Expr} {m : Str} {apos pos : Pos} (c : Cok X g C ev E N sc Xw k) (hb : baseB o = true) (hline : (apos.endLine == pos.line) = true) (ho : PE X o (tT X.K E Xw fa)) :
    PE X (.Call (.Attribute o m apos) [] [] pos) (tE X.K E Xw fun ρ S => (fa ρ S).bind fun x S1 => (match methD g x m S1 with
              | some q => C q [x] S1
              | none => .bad)) := by
  refine ⟨fun pins s σ H Q I ⟨W, ρ, S, rel, res⟩ => ?_⟩
  refine methodCall_wp (base_b hb) (form_ok rfl (by decide)) hline (thn (ho.run pins s σ H (fun v H1 => ∃ (i : Nat) (W1 : Wd) (S1 : Sto) (cn q : Str) (fs1 : List (Str × D)), v = .ref (W1.μ i) ∧ S1[i]? = some (.ins cn fs1) ∧ fs1.lookup m = none ∧ g.mt cn m = some q ∧ Rel X.K E W1 H1 ρ σ S1 ∧
    Res X.K E Xw W1 H1 ρ σ (C q [.ref i] S1) fun d _ W' H' => ∀ v, Rep X.K W' H' d v → Q v H') I ⟨W, ρ, S, rel, (Res.bind res).mono fun d S1 W1 H1 l1 w1 p v rv => ?_⟩) ?_)
  · cases z : methD g d m S1 with
    | none => rw [z] at p; exact False.elim p
    | some q =>
      rw [z] at p
      obtain ⟨i, cn, fs1, rfl, e1, e2, e3⟩ := methD_some z
      obtain ⟨hi, rfl⟩ := repT_ref rv
      exact ⟨i, W1, S1, cn, q, fs1, rfl, e1, e2, e3, rel.step l1 w1, p⟩
  · rintro u s1 ⟨v, H1, I1, rv, i, W1, S1, cn, q, fs1, rfl, e1, e2, e3, rel1, res1⟩
    obtain rfl : u = Value.ref (W1.μ i) := rv
    obtain ⟨hi, dx, gs, hH, pr⟩ := ws_ins rel1.ws e1
    obtain ⟨fd, f, fdat, m1, m2, m3, m4, m5, m6⟩ := c.mts cn m q e3
    refine getmeth_ok I1 hH m2 m3 (flds_no pr e2) ?_
    refine PySem.W.callWith_K0 (first := [.ref (W1.μ i)]) I1.kIn m3.kp ?_
    refine run_callG (us := [.ref (W1.μ i)]) (vs := [.ref (W1.μ i)]) m5 (c.room.mono (Nat.le_succ _)) c.gd m4 (Ex := WE (wxOf ev Xw)) (fun σ => passA c.tk σ) I1 (.cons rfl .nil) ?_
    refine spD_of (rel1.w c.ew) rel1.ws (Reps.one (.ref hi)) ?_ res1
    have := m6 [.ref i] S1 fun z => by rw [z] at res1; exact res1
    rw [← this]; rfl
/-! ### new objects -/
theorem make_guards {A : Around} {D : Addr} {us : List Value} {kw : List (Str × Value)} : (A.under (.builtin "type.__call__" ⟨.ref D :: us, kw⟩)).guards = A.guards := by
  first | rfl | (unfold Around.under; simp [Code.guards, pushGuards])
theorem le_made {K : PySem.W.Frag} {W : Wd} {H : Hp} {S : Sto} {x dx D : Addr} (w : WS K W H S) (nx : H x = none) (ndx : H dx = none) (ne : dx ≠ x) :
    WS K W (upd H dx (.own x)) S ∧ upd H dx (.own x) x = none ∧ Le W H W (upd H dx (.own x)) :=
  ⟨ws_new w ndx (.own x) W rfl rfl rfl (fun _ h => h) (fun _ h => .inl h) (fun _ e => by cases e) (fun _ e => by cases e) (fun _ _ e => by cases e), by rw [upd_ne ne.symm]; exact nx,
    le_new w ndx (.own x) W rfl rfl rfl (fun _ h => h) fun _ h => .inl h⟩
/-- C(e, ..) -/
theorem den_make {x q : Str} {e : Expr} {es : List Expr} {fs : Ev → Sto → R (List D)} {p pos : Pos} (c : Cok X g C ev E N sc Xw k) (hp : plainName x = true) (hg : glB sc x = true) (hcl : g.cl x = true) (hq : g.mt x "__init__" = some q) (hn : (e :: es).all notStar = true)
    (h : PA X (e :: es) (tA X.K E Xw fs)) : PE X (.Call (.Name x p) (e :: es) [] pos) (tE X.K E Xw fun ρ S => (fs ρ S).bind fun ds S1 => (C q (.ref S1.length :: ds) (S1 ++ [.ins x []])).bind fun d S2 => initR S1.length d S2) := by
  obtain ⟨hm, mk1, mk2⟩ := c.mkr x hcl
  obtain ⟨fd, f, fdat, m1, m2, m3, m4, m5, m6⟩ := c.mts x "__init__" q hq
  have hs := Bool.and_eq_true_iff.mp (show (notStar e && es.all notStar) = true from hn)
  refine ⟨fun pins s σ H Q I ⟨W, ρ, S, rel, res⟩ => ?_⟩
  refine wpAny_Call_Name_kw (ld_glob I (glOk hg c.hsc) hm ?_ (plain3 hp).1)
  refine PySem.W.callWith_K (h₀ := X.base) I.ok.mod.kin mk2 ?_ (star_ok hs.1) (back_plain hs.2)
  refine thn (h.run pos pins s σ H (fun vs H1 => ∃ W1 S1 ds, Rel X.K E W1 H1 ρ σ S1 ∧ Reps X.K W1 H1 ds vs ∧ Res X.K E Xw W1 H1 ρ σ ((C q (.ref S1.length :: ds) (S1 ++ [.ins x []])).bind fun d S2 => initR S1.length d S2) fun d _ W' H' => ∀ v, Rep X.K W' H' d v → Q v H') I
    ⟨W, ρ, S, rel, (Res.bind res).mono fun ds S1 W1 H1 l1 w1 p vs rvs => ⟨W1, S1, ds, rel.step l1 w1, rvs, p⟩⟩) ?_
  rintro us s1 ⟨vs, H1, I1, r1, W1, S1, ds, rel1, rvs, res1⟩
  refine ⟨I1.kIn, ?_⟩
  have I2 := Inv.made (C := He.ga X.K x) I1
  have nx := I1.hok.fresh (Nat.le_succ s1.heap.objs.size)
  have ndx := I1.hok.fresh (Nat.le_refl s1.heap.objs.size)
  have nex : s1.heap.objs.size ≠ s1.heap.objs.size + 1 := Nat.ne_of_lt (Nat.lt_succ_self _)
  obtain ⟨wa, na, la⟩ := le_made (D := He.ga X.K x) rel1.ws nx ndx nex
  have wb := ws_claim (mo := .ins x []) (o := .ins (He.ga X.K x) s1.heap.objs.size []) wa (free_none wa na) ⟨s1.heap.objs.size, [], upd_same, .nil⟩ (fun _ e => by cases e) (fun _ e => by cases e) (fun _ _ e => by cases e)
  have lb : Le W1 H1 (W1.push (s1.heap.objs.size + 1)) (upd (upd H1 s1.heap.objs.size (.own (s1.heap.objs.size + 1))) (s1.heap.objs.size + 1) (.ins (He.ga X.K x) s1.heap.objs.size [])) := le_claim la nx
  have rr : Rep X.K (W1.push (s1.heap.objs.size + 1)) (upd (upd H1 s1.heap.objs.size (.own (s1.heap.objs.size + 1))) (s1.heap.objs.size + 1) (.ins (He.ga X.K x) s1.heap.objs.size [])) (.ref S1.length) (.ref (s1.heap.objs.size + 1)) := by
    have z := Rep.ref (K := X.K) (W := W1.push (s1.heap.objs.size + 1)) (H := upd (upd H1 s1.heap.objs.size (.own (s1.heap.objs.size + 1))) (s1.heap.objs.size + 1) (.ins (He.ga X.K x) s1.heap.objs.size [])) (i := W1.n) (Nat.lt_succ_self _)
    rw [push_new] at z
    rw [rel1.ws.len]
    exact z
  have wish : spD X.K X.w ev fd.ps.length (C q) (.ref (s1.heap.objs.size + 1) :: vs) (upd (upd H1 s1.heap.objs.size (.own (s1.heap.objs.size + 1))) (s1.heap.objs.size + 1) (.ins (He.ga X.K x) s1.heap.objs.size [])) (fun v H2 => v = .non ∧ Q (.ref (s1.heap.objs.size + 1)) H2) (WE (wxOf ev Xw) σ) := by
    refine spD_of (E := E) (ρ := ρ) (lb.w.trans (rel1.w c.ew)) wb (.cons rr (rvs.pre (lb.pre rel1.ws))) ?_ ?_
    · have := m6 (.ref S1.length :: ds) (S1 ++ [.ins x []]) fun z => by rw [z] at res1; exact res1
      rw [← this, List.length_cons, List.length_cons, rvs.length]
    · refine Res.mono (P := fun d S2 W2 H2 => Res X.K E Xw W2 H2 ρ σ (initR S1.length d S2) fun d _ W' H' => ∀ v, Rep X.K W' H' d v → Q v H') (Res.bind (Res.le (ρ := ρ) lb res1)) fun d S2 W2 H2 l2 w2 p v rv => ?_
      cases d with
      | non =>
        cases rv
        exact ⟨rfl, p W2 H2 w2.refl w2 _ (rr.pre (l2.pre wb))⟩
      | _ => exact False.elim p
  have b := m4 { s1 with heap := (s1.heap.push PySem.W.emptyDict).push (PySem.W.instObj (He.ga X.K x) s1.heap.objs.size) } (.ref (s1.heap.objs.size + 1) :: us) I2.kIn (by rw [List.append_nil, List.length_cons, ← r1.length, ← List.length_cons (a := V.ref (s1.heap.objs.size + 1))]; exact m5.len wish)
  rw [List.append_nil] at b
  refine wpAny_call (make_map (f := f) I1.kIn mk1 m3.at_ (beq_iff_eq.mp m3.fn) (codeAny_mono (m5.run (args := ⟨.ref (s1.heap.objs.size + 1) :: us, []⟩) (us := .ref (s1.heap.objs.size + 1) :: us) (vs := .ref (s1.heap.objs.size + 1) :: vs) (c.room.make _ us []) (by rw [make_guards]; exact c.gd) (I2.env0.make _ us []) b (.cons rfl r1) wish) ?_))
  rintro (err | fl) s' hq'
  · exact passA c.tk σ pins _ _ err s' I2 hq'
  · cases fl with
    | ret u =>
      obtain ⟨v, H', I3, rv, ev, q3⟩ := I2.after hq'
      subst ev
      exact ⟨rv, ⟨V.ref (s1.heap.objs.size + 1), H', I3, rfl, q3⟩⟩
    | next => exact False.elim hq'
    | brk => exact False.elim hq'
    | cont => exact False.elim hq'
/-- o.pop() of a list of the store -/
theorem den_pop {o : Expr} {apos pos : Pos} (hb : baseB o = true) (hline : (apos.endLine == pos.line) = true) (ho : PE X o (tE X.K E Xw fa)) : PE X (.Call (.Attribute o "pop" apos) [] [] pos) (tE X.K E Xw fun ρ S => (fa ρ S).bind popS) := by
  refine (pe_bm0 PySem.F.plainAttrs_list PySem.F.slot_list_pop PySem.F.type_list_pop mt_pop ho (base_b hb) hline).wk fun σ H Q ⟨W, ρ, S, rel, res⟩ => ⟨W, ρ, S, rel, (Res.bind res).mono fun d S1 W1 H1 l1 w1 p v rv => ?_⟩
  unfold popS at p
  split at p
  · rename_i i
    split at p
    · rename_i ds e
      split at p
      · rename_i d hd
        cases rv with
        | ref hi =>
          have m := w1.ob i _ e
          obtain ⟨vs, hv, rs⟩ := m
          obtain ⟨y, hy, ry⟩ := rs.get hd
          rw [rs.length] at hy
          refine ⟨.inl ⟨rfl, vs, SqL.of hv⟩, _, vs, y, rfl, rfl, hv, hy, ?_⟩
          have lz : vs.dropLast.length ≤ sizeLine := by rw [List.length_dropLast]; have := w1.wf _ _ (.inl hv); omega
          have P := sto_preM (o := .lst vs.dropLast) w1 hi
          have rd : Reps X.K W1 H1 ds.dropLast vs.dropLast := by rw [List.dropLast_eq_take, List.dropLast_eq_take, rs.length]; exact rs.take _
          have m2 : MOk X.K W1 (upd H1 (W1.μ i) (.lst vs.dropLast)) (W1.μ i) (.lst ds.dropLast) := ⟨_, upd_same, rd.pre P⟩
          exact p W1 _ (le_sto w1 hi) (ws_sto w1 hi m2 (fun xs e => by cases e; exact lz) (fun _ e => by cases e) (fun _ _ e => by cases e)) y (ry.pre P)
      · exact False.elim p
    · exact False.elim p
  · exact False.elim p
end
end Lw
set_option maxHeartbeats 4000000
namespace Lw
open PySem PySem.Spec PyProof.Rows L2
/-! LwAd: sorted(set(..)) of tuples of whole numbers. -/
theorem codeI_eq : ∀ ns : List Int, TS.code 4096 ns = codeI ns
  | [] => rfl
  | n :: ns => by
    show n * 4096 ^ ns.length + TS.code 4096 ns = n * 4096 ^ ns.length + codeI ns
    rw [codeI_eq ns]
theorem pow_pos4 (n : Nat) : (0 : Int) < 4096 ^ n := Int.pow_pos (by decide)
theorem code_lt : ∀ {ns : List Int}, TS.Bd 4096 ns → 0 ≤ codeI ns ∧ codeI ns < 4096 ^ ns.length
  | [], _ => by simp [codeI]
  | n :: ns, h => by
    obtain ⟨h1, h2⟩ := code_lt h.tail
    obtain ⟨g1, g2⟩ := h.head
    have pp := pow_pos4 ns.length
    have a1 : 0 ≤ n * 4096 ^ ns.length := Int.mul_nonneg g1 (Int.le_of_lt pp)
    have a2 : n * 4096 ^ ns.length ≤ 4095 * 4096 ^ ns.length := Int.mul_le_mul_of_nonneg_right (by omega) (Int.le_of_lt pp)
    have e : (4096 : Int) ^ (ns.length + 1) = 4096 ^ ns.length * 4096 := Int.pow_succ ..
    show 0 ≤ n * 4096 ^ ns.length + codeI ns ∧ n * 4096 ^ ns.length + codeI ns < 4096 ^ (ns.length + 1)
    rw [e]
    omega
theorem code_inj : ∀ {ns ms : List Int}, ns.length = ms.length → TS.Bd 4096 ns → TS.Bd 4096 ms → codeI ns = codeI ms → ns = ms
  | [], [], _, _, _, _ => rfl
  | [], _ :: _, h, _, _, _ => by simp at h
  | _ :: _, [], h, _, _, _ => by simp at h
  | n :: ns, m :: ms, hl, hn, hm, e => by
    have hl2 : ns.length = ms.length := Nat.succ.inj hl
    obtain ⟨a1, a2⟩ := code_lt hn.tail
    obtain ⟨b1, b2⟩ := code_lt hm.tail
    have e2 : n * 4096 ^ ns.length + codeI ns = m * 4096 ^ ms.length + codeI ms := e
    clear e hl
    rw [← hl2] at e2 b2
    have pp := pow_pos4 ns.length
    generalize (4096 : Int) ^ ns.length = P at *
    have q1 : (n * P + codeI ns) / P = n := by
      rw [Int.add_comm, Int.add_mul_ediv_right _ _ (by omega), Int.ediv_eq_zero_of_lt a1 a2]; omega
    have q2 : (m * P + codeI ms) / P = m := by
      rw [Int.add_comm, Int.add_mul_ediv_right _ _ (by omega), Int.ediv_eq_zero_of_lt b1 b2]; omega
    have en : n = m := by rw [← q1, ← q2, e2]
    subst en
    have e3 : codeI ns = codeI ms := by
      generalize n * P = Z at e2
      omega
    rw [code_inj hl2 hn.tail hm.tail e3]
structure KsOk (d : Nat) (ks : List (List Int)) : Prop where
  len : ∀ k ∈ ks, k.length = d
  bd : ∀ k ∈ ks, TS.Bd 4096 k
theorem insU_mem {d : Nat} {k : List Int} : ∀ {xs : List (List Int)}, KsOk d (k :: xs) → ∀ y, y ∈ insU k xs ↔ y = k ∨ y ∈ xs
  | [], _, y => by simp [insU]
  | x :: xs, h, y => by
    have hx : x ∈ k :: x :: xs := List.mem_cons_of_mem _ (List.mem_cons_self ..)
    have hk : k ∈ k :: x :: xs := List.mem_cons_self ..
    unfold insU
    by_cases c1 : codeI k < codeI x
    · rw [if_pos c1]; simp
    · rw [if_neg c1]
      by_cases c2 : codeI k = codeI x
      · rw [if_pos c2]
        have e := code_inj ((h.len k hk).trans (h.len x hx).symm) (h.bd k hk) (h.bd x hx) c2
        subst e
        simp
      · rw [if_neg c2]
        have ih := insU_mem (k := k) (xs := xs) ⟨fun z hz => h.len z (by rcases List.mem_cons.mp hz with q | q; exact q ▸ hk; exact List.mem_cons_of_mem _ (List.mem_cons_of_mem _ q)), fun z hz => h.bd z (by rcases List.mem_cons.mp hz with q | q; exact q ▸ hk; exact List.mem_cons_of_mem _ (List.mem_cons_of_mem _ q))⟩ y
        rw [List.mem_cons, ih, List.mem_cons]
        constructor
        · rintro (q | q | q)
          · exact .inr (.inl q)
          · exact .inl q
          · exact .inr (.inr q)
        · rintro (q | q | q)
          · exact .inr (.inl q)
          · exact .inl q
          · exact .inr (.inr q)
theorem insU_inc {d : Nat} {k : List Int} : ∀ {xs : List (List Int)}, KsOk d (k :: xs) → xs.Pairwise (fun a b => codeI a < codeI b) → (insU k xs).Pairwise fun a b => codeI a < codeI b
  | [], _, _ => by simp [insU]
  | x :: xs, h, hp => by
    obtain ⟨p1, p2⟩ := List.pairwise_cons.mp hp
    have hk : k ∈ k :: x :: xs := List.mem_cons_self ..
    have h' : KsOk d (k :: xs) := ⟨fun z hz => h.len z (by rcases List.mem_cons.mp hz with q | q; exact q ▸ hk; exact List.mem_cons_of_mem _ (List.mem_cons_of_mem _ q)), fun z hz => h.bd z (by rcases List.mem_cons.mp hz with q | q; exact q ▸ hk; exact List.mem_cons_of_mem _ (List.mem_cons_of_mem _ q))⟩
    unfold insU
    by_cases c1 : codeI k < codeI x
    · rw [if_pos c1]
      refine List.pairwise_cons.mpr ⟨fun b hb => ?_, hp⟩
      rcases List.mem_cons.mp hb with q | q
      · rw [q]; exact c1
      · exact Int.lt_trans c1 (p1 b q)
    · rw [if_neg c1]
      by_cases c2 : codeI k = codeI x
      · rw [if_pos c2]; exact hp
      · rw [if_neg c2]
        refine List.pairwise_cons.mpr ⟨fun b hb => ?_, insU_inc h' p2⟩
        rcases (insU_mem h' b).mp hb with q | q
        · rw [q]; omega
        · exact p1 b q
theorem foldU {d : Nat} : ∀ {ks : List (List Int)}, KsOk d ks → (∀ y, y ∈ ks.foldr insU [] ↔ y ∈ ks) ∧ (ks.foldr insU []).Pairwise fun a b => codeI a < codeI b
  | [], _ => ⟨fun _ => Iff.rfl, .nil⟩
  | k :: ks, h => by
    obtain ⟨m, p⟩ := foldU (ks := ks) ⟨fun z hz => h.len z (List.mem_cons_of_mem _ hz), fun z hz => h.bd z (List.mem_cons_of_mem _ hz)⟩
    have h' : KsOk d (k :: ks.foldr insU []) := ⟨fun z hz => h.len z (by rcases List.mem_cons.mp hz with q | q; exact q ▸ List.mem_cons_self ..; exact List.mem_cons_of_mem _ ((m z).mp q)), fun z hz => h.bd z (by rcases List.mem_cons.mp hz with q | q; exact q ▸ List.mem_cons_self ..; exact List.mem_cons_of_mem _ ((m z).mp q))⟩
    refine ⟨fun y => ?_, insU_inc h' p⟩
    rw [List.foldr_cons, insU_mem h' y, m y, List.mem_cons]
theorem rise_ext : ∀ {xs ys : List (List Int)}, xs.Pairwise (fun a b => codeI a < codeI b) → ys.Pairwise (fun a b => codeI a < codeI b) → (∀ y, y ∈ xs ↔ y ∈ ys) → xs = ys
  | [], [], _, _, _ => rfl
  | [], y :: ys, _, _, h => by have := (h y).mpr (List.mem_cons_self ..); cases this
  | x :: xs, [], _, _, h => by have := (h x).mp (List.mem_cons_self ..); cases this
  | x :: xs, y :: ys, hx, hy, h => by
    obtain ⟨p1, p2⟩ := List.pairwise_cons.mp hx
    obtain ⟨q1, q2⟩ := List.pairwise_cons.mp hy
    have e : x = y := by
      rcases List.mem_cons.mp ((h x).mp (List.mem_cons_self ..)) with z | z
      · exact z
      · rcases List.mem_cons.mp ((h y).mpr (List.mem_cons_self ..)) with z' | z'
        · exact z'.symm
        · exact absurd (Int.lt_trans (p1 y z') (q1 x z)) (Int.lt_irrefl _)
    subst e
    rw [rise_ext p2 q2 fun z => ?_]
    constructor
    · intro hz
      rcases List.mem_cons.mp ((h z).mp (List.mem_cons_of_mem _ hz)) with w | w
      · rw [w] at hz; exact absurd (p1 x hz) (Int.lt_irrefl _)
      · exact w
    · intro hz
      rcases List.mem_cons.mp ((h z).mpr (List.mem_cons_of_mem _ hz)) with w | w
      · rw [w] at hz; exact absurd (q1 x hz) (Int.lt_irrefl _)
      · exact w
/-- what the kit's rules give is the list by insU -/
theorem set_order {d : Nat} {ks ls : List (List Int)} (h : KsOk d ks) (hs : ∀ l ∈ ls, l ∈ ks) (ha : ∀ k ∈ ks, k ∈ ls) (nd : ls.Nodup) (pw : ls.Pairwise fun a b => TS.code 4096 a ≤ TS.code 4096 b) : ls = ks.foldr insU [] := by
  obtain ⟨m, p⟩ := foldU h
  refine rise_ext ?_ p fun y => ⟨fun hy => (m y).mpr (hs y hy), fun hy => ha y ((m y).mp hy)⟩
  refine List.Pairwise.imp_of_mem (R := fun a b => a ≠ b ∧ TS.code 4096 a ≤ TS.code 4096 b) (fun {a b} ha' hb' q => ?_) (nd.and pw)
  have q2 := q.2
  rw [codeI_eq, codeI_eq] at q2
  have ne : codeI a ≠ codeI b := fun z => q.1 (code_inj ((h.len a (hs a ha')).trans (h.len b (hs b hb')).symm) (h.bd a (hs a ha')) (h.bd b (hs b hb')) z)
  omega
theorem okKs_ok {ks : List (List Int)} (h : okKs ks = true) : ks.length < 64 ∧ 1 ≤ (ks.headD [0]).length ∧ KsOk (ks.headD [0]).length ks := by
  unfold okKs at h
  simp only [Bool.and_eq_true, decide_eq_true_eq, List.all_eq_true] at h
  obtain ⟨⟨h1, h2⟩, h3⟩ := h
  exact ⟨h1, h2, fun k hk => (h3 k hk).1, fun k hk i hi => (h3 k hk).2 i hi⟩
section
variable {K : PySem.W.Frag} {W : Wd} {H : Hp} {S : Sto}
theorem ints_of : ∀ {is : List D} {vs : List V} {ns : List Int}, Reps K W H is vs → intsD is = some ns → vs = ns.map V.int
  | _, _, _, .nil, e => by cases e; rfl
  | d :: is, _, ns, .cons r t, e => by
    cases d with
    | int i =>
      obtain ⟨ms, e1, rfl⟩ := Option.map_eq_some_iff.mp (show (intsD is).map (i :: ·) = some ns from e)
      cases r
      rw [ints_of t e1] <;> rfl
    | _ => cases e
theorem tups_of : ∀ {ds : List D} {vs : List V} {ks : List (List Int)}, Reps K W H ds vs → tupIs ds = some ks → ∃ ps : List (Addr × List Int), vs = ps.map (fun p => V.ref p.1) ∧ ps.map (·.2) = ks ∧ ∀ p ∈ ps, SqT K H p.1 (p.2.map V.int)
  | _, _, _, .nil, e => by cases e; exact ⟨[], rfl, rfl, fun p hp => by cases hp⟩
  | d :: ds, _, ks, .cons r t, e => by
    cases d with
    | tup is =>
      obtain ⟨ns, e1, e2⟩ := Option.bind_eq_some_iff.mp (show (intsD is).bind (fun ns => (tupIs ds).map (ns :: ·)) = some ks from e)
      obtain ⟨ms, e3, rfl⟩ := Option.map_eq_some_iff.mp e2
      obtain ⟨ps, q1, q2, q3⟩ := tups_of t e3
      cases r with
      | tup h r =>
        rename_i a us
        have z := ints_of r e1
        subst z
        refine ⟨(a, ns) :: ps, by rw [q1] <;> rfl, by rw [List.map_cons, q2], fun p hp => ?_⟩
        rcases List.mem_cons.mp hp with z | z
        · subst z; exact h
        · exact q3 p z
    | _ => cases e
theorem sqt_keep {p a : Addr} {o : HO} {xs : List V} (hp : H p = none) (h : SqT K H a xs) : SqT K (upd H p o) a xs := by
  rcases h with h | h
  · exact .inl (rd_keep hp h)
  · exact .inr h
theorem ints_reps : ∀ ns : List Int, Reps K W H (ns.map D.int) (ns.map V.int)
  | [] => .nil
  | _ :: ns => .cons (.int _) (ints_reps ns)
theorem tups_reps : ∀ {ps : List (Addr × List Int)}, (∀ p ∈ ps, SqT K H p.1 (p.2.map V.int)) → Reps K W H ((ps.map (·.2)).map fun k => D.tup (k.map D.int)) (ps.map fun p => V.ref p.1)
  | [], _ => .nil
  | p :: ps, h => .cons (.tup (h p (List.mem_cons_self ..)) (ints_reps _)) (tups_reps fun q hq => h q (List.mem_cons_of_mem _ hq))
end
section
variable {X : Cx} {g : G} {C : Call} {ev : Str → Value} {E : Ent} {N : List Str} {sc : Scope} {Xw : Str → L2.St → Hp → Prop} {k : Nat}
theorem den_setsort {a : Expr} {fa : Ev → Sto → R D} {p p2 pos pos2 : Pos} (c : Cok X g C ev E N sc Xw k) (hg : glB sc "sorted" = true) (hb : g.bi "sorted" = true) (hg2 : glB sc "set" = true) (hb2 : g.bi "set" = true) (hn : notStar a = true) (ha : PE X a (tT X.K E Xw fa)) :
    PE X (.Call (.Name "sorted" p) [.Call (.Name "set" p2) [a] [] pos2] [] pos) (tE X.K E Xw fun ρ S => (fa ρ S).bind fun d S1 => R.opt (setSortD (view S1 d)) S1) := by
  refine (pe_callB (cr_sortedT c.calm) (glOk hg c.hsc) (c.bis _ hb) (by decide +kernel) (pa_cons (pe_callTy (cr_setOfT c.calm (by have := c.room.un; omega)) (glOk hg2 c.hsc) (c.bis _ hb2) (by decide +kernel) (pa_cons ha pa_nil (star_ok hn)) (by decide) (by decide) (star_ok hn) rfl) pa_nil (star_ok rfl)) (by decide) (by decide) (star_ok rfl) rfl).wk
    fun σ H Q ⟨W, ρ, S, rel, res⟩ => ⟨W, ρ, S, rel, (Res.bind res).mono fun d S1 W1 H1 l1 w1 pp v rv => ?_⟩
  show rSetOfT X.K X.prog X.w [v] H1 fun u H2 => rSortedT X.K X.prog X.w [u] H2 Q
  obtain ⟨d', e, f⟩ := pp.opt
  have see := rv.see w1
  generalize view S1 d = dd at *
  cases dd with
  | lst ds =>
    obtain ⟨l, vs, rfl, hl, r1, _, _⟩ := see.lenL w1
    unfold setSortD at e
    dsimp only at e
    cases hks : tupIs ds with
    | none => rw [hks] at e; cases e
    | some ks =>
      rw [hks] at e
      dsimp only at e
      by_cases ok : okKs ks = true
      · rw [if_pos ok] at e
        cases e
        obtain ⟨o1, o2, o3⟩ := okKs_ok ok
        obtain ⟨ps, q1, q2, q3⟩ := tups_of r1 hks
        have lens : ps.length = ks.length := by rw [← q2, List.length_map]
        refine ⟨l, ps, rfl, .inl (by rw [← q1]; exact hl), q3, by omega, fun b L hb0 sub all => ?_⟩
        have inks : ∀ p ∈ ps, p.2 ∈ ks := fun p hp => by rw [← q2]; exact List.mem_map_of_mem hp
        refine ⟨b, L, (ks.headD [0]).length, 4096, rfl, upd_same, fun p hp => sqt_keep hb0 (q3 p (sub p hp)), o2, fun p hp => ⟨o3.len _ (inks p (sub p hp)), o3.bd _ (inks p (sub p hp))⟩, fun L' z pm nd few pw hz => ?_⟩
        have ord : L'.map (·.2) = ks.foldr insU [] := by
          refine set_order o3 (fun x hx => ?_) (fun x hx => ?_) nd (List.pairwise_map.mpr pw)
          · obtain ⟨p, hp, rfl⟩ := List.mem_map.mp hx
            exact inks p (sub p (pm.mem_iff.mp hp))
          · rw [← q2] at hx
            obtain ⟨p, hp, rfl⟩ := List.mem_map.mp hx
            obtain ⟨p', hp', ep⟩ := List.mem_map.mp (all p hp)
            rw [← ep]
            exact List.mem_map_of_mem (pm.mem_iff.mpr hp')
        have LL := le_new w1 hb0 (SetTO X.prog X.w b L) W1 rfl rfl rfl (fun _ h => h) (fun _ h => .inl h)
        have w2 := ws_new w1 hb0 (SetTO X.prog X.w b L) W1 rfl rfl rfl (fun _ h => h) (fun _ h => .inl h) (fun xs e => by cases e) (fun xs e => by cases e) (fun _ _ e => by cases e)
        have fin : Fin X.K W1 H1 S1 (.lst ((ks.foldr insU []).map fun k => .tup (k.map D.int))) Q := fun W' H' l w v r => f W' H' l w v r
        have reps := tups_reps (K := X.K) (W := W1) (H := upd H1 b (SetTO X.prog X.w b L)) (ps := L') fun p hp => sqt_keep hb0 (q3 p (sub p (pm.mem_iff.mp hp)))
        rw [ord] at reps
        exact (Fin.le LL fin).lst w2 reps (by rw [List.length_map, sizeLine_eq]; omega) hz
      · rw [if_neg ok] at e; cases e
  | _ => cases e
end
end Lw
set_option maxHeartbeats 2000000
/-! LwF: the evaluator is right for every expression. -/
namespace Lw
open PySem PySem.Spec PyProof.Rows L2

structure Snd (g : G) (C : Call) (ev : Str → Value) (E : Ent) (N : List Str) (k n : Nat) : Prop where
  e : ∀ {X : Cx} {sc : Scope} {Xw : Str → L2.St → Hp → Prop}, Cok X g C ev E N sc Xw k → ∀ e, PE X e (tE X.K E Xw (evE g C N n sc e))
  t : ∀ {X : Cx} {sc : Scope} {Xw : Str → L2.St → Hp → Prop}, Cok X g C ev E N sc Xw k → ∀ e, PE X e (tT X.K E Xw (evT g C N n sc e))
  a : ∀ {X : Cx} {sc : Scope} {Xw : Str → L2.St → Hp → Prop}, Cok X g C ev E N sc Xw k → ∀ es, es.all notStar = true → PA X es (tA X.K E Xw (evA g C N n sc es))
  ts : ∀ {X : Cx} {sc : Scope} {Xw : Str → L2.St → Hp → Prop}, Cok X g C ev E N sc Xw k → ∀ es, es.all notStar = true → PA X es (tTs X.K E Xw (evTs g C N n sc es))
  o : ∀ {X : Cx} {sc : Scope} {Xw : Str → L2.St → Hp → Prop}, Cok X g C ev E N sc Xw k → ∀ e, PO X e (tO X E Xw (evO g C N n sc e))
  bool : ∀ {X : Cx} {sc : Scope} {Xw : Str → L2.St → Hp → Prop}, Cok X g C ev E N sc Xw k → ∀ op e es pos, PE X (.BoolOp op (e :: es) pos) (tE X.K E Xw (evBool g C N n sc op e es))
  test : ∀ {X : Cx} {sc : Scope} {Xw : Str → L2.St → Hp → Prop}, Cok X g C ev E N sc Xw k → ∀ e, PT X e (tBl X.K E Xw (evTest g C N n sc e))
  tests : ∀ {X : Cx} {sc : Scope} {Xw : Str → L2.St → Hp → Prop}, Cok X g C ev E N sc Xw k → ∀ op e es pos, PW X (.BoolOp op (e :: es) pos) (tBl X.K E Xw (evTests g C N n sc op e es))
  ifs : ∀ {X : Cx} {sc : Scope} {Xw : Str → L2.St → Hp → Prop}, Cok X g C ev E N sc Xw k → ∀ es, PTs X es (tBl X.K E Xw (evIfs g C N n sc es))
  it : ∀ {X : Cx} {sc : Scope} {Xw : Str → L2.St → Hp → Prop}, Cok X g C ev E N sc Xw k → ∀ tg e, PI X tg e (tI X.K E Xw (evI g C N n sc tg e))

section
variable {g : G} {C : Call} {ev : Str → Value} {E : Ent} {N : List Str} {k n : Nat} {X : Cx} {sc : Scope} {Xw : Str → L2.St → Hp → Prop}
/-- a comprehension's block is a context -/
theorem Cok.blk (c : Cok X g C ev E N sc Xw k) (s : Shared) (H : Hp) (scope : Scope) (C' : Addr) (cl : List (Str × Addr)) (fp : List Addr) :
    Cok (X.blk s H scope (compEnvC scope cl C' X.env) fp) g C ev E N (relS scope sc) (fun _ _ _ => False) k where
  hN := c.hN
  nd := c.nd
  hsc := by rw [← c.hsc]; rfl
  calm := c.calm
  room := c.room
  gd := c.gd
  tk := fun _ _ x => by
    obtain ⟨_, _, _, _, _, _, _, _, _, _, _, _, _, _, _, _, _, _, _, z⟩ := x
    exact z.elim
  con := c.con
  fns := c.fns
  bis := c.bis
  ew := c.ew
  stk := c.stk
  ar := c.ar
  fld := c.fld
  mts := c.mts
  mkr := c.mkr
theorem blk_tok (c : Cok X g C ev E N sc Xw k) (s : Shared) (H : Hp) (scope : Scope) (C' : Addr) (cl : List (Str × Addr)) (fp : List Addr) : Tok' (X.blk s H scope (compEnvC scope cl C' X.env) fp) N scope where
  hN := c.hN
  nd := c.nd
  calm := c.calm
  loc := fun x h => by
    unfold locB kindB at h
    have e0 : (X.blk s H scope (compEnvC scope cl C' X.env) fp).env.scope = relS scope X.env.scope := rfl
    rw [e0]
    split at h
    · rename_i q
      have q2 := lookup_relS_keep (sc := X.env.scope) (show NameKind.local ≠ .free by decide) q
      exact ⟨.inl q2, .inr q2⟩
    · rename_i q
      have q2 := lookup_relS_keep (sc := X.env.scope) (show NameKind.cell ≠ .free by decide) q
      exact ⟨.inr q2, .inl (by show (scope.names.lookup x == some NameKind.cell) = true; rw [q]; rfl)⟩
    · cases h
/-- .. also one that owes something of an exception -/
theorem Cok.blkX (c : Cok X g C ev E N sc Xw k) (s : Shared) (H : Hp) (scope : Scope) (C' : Addr) (cl : List (Str × Addr)) (fp : List Addr) (xe : Value → Shared → Prop) {Xe : Str → L2.St → Hp → Prop} (tk : TakesA (blkX X s H scope (compEnvC scope cl C' X.env) fp xe) (wxOf ev Xe)) :
    Cok (blkX X s H scope (compEnvC scope cl C' X.env) fp xe) g C ev E N (relS scope sc) Xe k where
  hN := c.hN
  nd := c.nd
  hsc := by rw [← c.hsc]; rfl
  calm := c.calm
  room := c.room
  gd := c.gd
  tk := tk
  con := c.con
  fns := c.fns
  bis := c.bis
  ew := c.ew
  stk := c.stk
  ar := c.ar
  fld := c.fld
  mts := c.mts
  mkr := c.mkr
theorem noTk {X : Cx} {ev : Str → Value} : TakesA X (wxOf ev fun _ _ _ => False) := fun _ _ x => by
  obtain ⟨_, _, _, _, _, _, _, _, _, _, _, _, _, _, _, _, _, _, _, z⟩ := x
  exact z.elim
theorem blk_tokX (c : Cok X g C ev E N sc Xw k) (s : Shared) (H : Hp) (scope : Scope) (C' : Addr) (cl : List (Str × Addr)) (fp : List Addr) (xe : Value → Shared → Prop) : Tok' (blkX X s H scope (compEnvC scope cl C' X.env) fp xe) N scope where
  hN := c.hN
  nd := c.nd
  calm := c.calm
  loc := (blk_tok c s H scope C' cl fp).loc
theorem fold_ok {e : Expr} {env : Env} (h : notSet e = true) : ∀ x, foldedSetIterable e env x = pure x := by
  intro x
  cases e <;> first | rfl | (cases h)
theorem snd0 : Snd g C ev E N k 0 where
  e := fun _ e => no_bad nE
  t := fun _ e => no_bad nT
  a := fun _ es _ => no_badA nA
  ts := fun _ es _ => no_badA nTs
  o := fun _ e => ⟨fun _ _ _ _ _ _ ⟨_, _, _, _, h⟩ => h.elim⟩
  bool := fun _ op e es pos => no_bad nE
  test := fun _ e => no_badT nB
  tests := fun _ op e es pos => no_badW nB
  ifs := fun _ es => ⟨fun _ _ _ _ _ _ ⟨_, _, _, _, h⟩ => h.elim⟩
  it := fun _ tg e => no_badI nI
theorem sE {f f' : Ev → Sto → R D} (h : f = f') {e : Expr} (q : PE X e (tE X.K E Xw f')) : PE X e (tE X.K E Xw f) := by rw [h]; exact q
theorem sT {f f' : Ev → Sto → R D} (h : f = f') {e : Expr} (q : PE X e (tT X.K E Xw f')) : PE X e (tT X.K E Xw f) := by rw [h]; exact q
theorem sB {f f' : Ev → Sto → R Bool} (h : f = f') {e : Expr} (q : PT X e (tBl X.K E Xw f')) : PT X e (tBl X.K E Xw f) := by rw [h]; exact q
theorem sI {f f' : Ev → Sto → R (List D)} (h : f = f') {tg e : Expr} (q : PI X tg e (tI X.K E Xw f')) : PI X tg e (tI X.K E Xw f) := by rw [h]; exact q
theorem setSorted_is {x : Str} {es : List Expr} (h : setSorted g sc x es = true) : ∃ y p a pos, es = [.Call (.Name y p) [a] [] pos] ∧ x = "sorted" ∧ y = "set" ∧ glB sc y = true ∧ (g.fn y).isSome = false ∧ g.bi y = true ∧ notStar a = true := by
  unfold setSorted at h
  split at h
  · simp only [Bool.and_eq_true, decide_eq_true_eq] at h
    obtain ⟨h1, h2, _, h3, h4, h5, h6⟩ := h
    exact ⟨_, _, _, _, rfl, h1, h2, h3, by simpa using h4, h5, h6⟩
  · cases h
theorem snd_e (ih : Snd g C ev E N k n) (c : Cok X g C ev E N sc Xw k) (e : Expr) : PE X e (tE X.K E Xw (evE g C N (n + 1) sc e)) := by
  cases e with
  | Constant v kk pos =>
    cases v with
    | none => exact den_c pe_non fun _ _ => .non
    | bool b => exact den_c pe_bl fun _ _ => .bl _
    | int i => exact den_c pe_int fun _ _ => .int _
    | str x => exact den_c pe_str fun _ _ => .str _
    | _ => exact no_bad nE
  | Name x pos =>
    by_cases hp : plainName x = true
    · by_cases hv : visB sc x = true
      · exact sE (by funext ρ S; simp only [evE, hp, hv, if_true] <;> cases getSl ρ (ixOf N x) <;> rfl) (den_name c hp hv)
      · by_cases hg : glB sc x = true
        · exact sE (by funext ρ S; simp only [evE, hp, hv, hg, if_true]; rfl) (den_glob c hp hg)
        · exact sE (by funext ρ S; simp only [evE, hp, hv, hg, if_true]; rfl) (no_bad nE)
    · exact sE (by funext ρ S; simp only [evE, hp]; rfl) (no_bad nE)
  | BinOp a op b pos => exact den_bin (ih.t c a) (ih.t c b)
  | UnaryOp op a pos =>
    cases op with
    | Not => exact den_not (ih.t c a)
    | USub => exact den_neg (ih.t c a)
    | _ => exact no_bad nE
  | BoolOp op es pos =>
    cases es with
    | nil => exact no_bad nE
    | cons e1 es1 => exact ih.bool c op e1 es1 pos
  | IfExp t a b pos => exact den_if (ih.test c t) (ih.e c a) (ih.e c b)
  | Compare a ops bs pos =>
    cases ops with
    | nil => cases bs <;> exact no_bad nE
    | cons op ops =>
      cases ops with
      | nil =>
        cases bs with
        | nil => exact no_bad nE
        | cons b bs =>
          cases bs with
          | nil =>
            by_cases hm : lastMarks [op] [b] = true
            · exact sE (by funext ρ S; simp only [evE, hm, if_true]) (no_bad nE)
            · exact sE (by funext ρ S; simp only [evE, hm]; rfl) (den_cmp (by simpa [lastMarks] using hm) c.ew c.hu (ih.t c a) (ih.t c b))
          | cons _ _ => exact no_bad nE
      | cons op2 ops =>
        cases ops with
        | cons _ _ => cases bs <;> exact no_bad nE
        | nil =>
          cases bs with
          | nil => exact no_bad nE
          | cons b bs =>
            cases bs with
            | nil => exact no_bad nE
            | cons b2 bs =>
              cases bs with
              | cons _ _ => exact no_bad nE
              | nil =>
                by_cases hm : lastMarks [op, op2] [b, b2] = true
                · exact sE (by funext ρ S; simp only [evE, hm, if_true]) (no_bad nE)
                · exact sE (by funext ρ S; simp only [evE, hm]; rfl) (den_chain (by simpa using hm) c.ew c.hu (ih.t c a) (ih.t c b) (ih.t c b2))
  | Call f es ks pos =>
    cases f with
    | Name x p =>
      cases ks with
      | cons _ _ => exact no_bad nE
      | nil =>
        by_cases hpg : (plainName x && glB sc x) = true
        · obtain ⟨hp, hg⟩ := Bool.and_eq_true_iff.mp hpg
          by_cases hf : (g.fn x).isSome = true
          · cases es with
            | nil => exact sE (by funext ρ S; simp only [evE, hpg, hf, if_true]) (no_bad nE)
            | cons e1 es1 =>
              by_cases hs : (e1 :: es1).all notStar = true
              · exact sE (by funext ρ S; simp only [evE, hpg, hf, hs, if_true]) (den_call c hp hg hf hs (ih.a c _ hs))
              · exact sE (by funext ρ S; simp only [evE, hpg, hf, hs, if_true]; rfl) (no_bad nE)
          · by_cases hb : g.bi x = true
            · by_cases hi : x = "isinstance"
              · subst hi
                have other : (∀ a T q, es ≠ [a, .Name T q]) → evE g C N (n + 1) sc (.Call (.Name "isinstance" p) es [] pos) = fun _ _ => .bad := fun ho => by
                  funext ρ S
                  simp only [evE, hpg, hf, hb, if_true]
                  rw [if_neg (by decide)]
                  trace_state
                match es, other with
                | [a, .Name T q], _ =>
                  by_cases hc : (glB sc T && g.bi T && plainName T && isT T && notStar a) = true
                  · have h0 := hc
                    simp only [Bool.and_eq_true] at hc
                    obtain ⟨⟨⟨⟨h1, h2⟩, h3⟩, h4⟩, h5⟩ := hc
                    exact sE (by funext ρ S; simp only [evE, hpg, hf, hb, h0, if_true]; rw [if_neg (by decide)]) (den_isi c hg hb h1 h2 h3 h4 h5 (ih.t c a))
                  · exact sE (by funext ρ S; simp only [evE, hpg, hf, hb, hc, if_true]; rw [if_neg (by decide)]; rfl) (no_bad nE)
                | [], o => exact sE (o (by intros; simp)) (no_bad nE)
                | [_], o => exact sE (o (by intros; simp)) (no_bad nE)
                | _ :: _ :: _ :: _, o => exact sE (o (by intros; simp)) (no_bad nE)
                | [a, b], o =>
                  by_cases hb2 : ∃ T q, b = .Name T q
                  · obtain ⟨T, q, rfl⟩ := hb2
                    by_cases hc : (glB sc T && g.bi T && plainName T && isT T && notStar a) = true
                    · have h0 := hc
                      simp only [Bool.and_eq_true] at hc
                      obtain ⟨⟨⟨⟨h1, h2⟩, h3⟩, h4⟩, h5⟩ := hc
                      exact sE (by funext ρ S; simp only [evE, hpg, hf, hb, h0, if_true]; rw [if_neg (by decide)]) (den_isi c hg hb h1 h2 h3 h4 h5 (ih.t c a))
                    · exact sE (by funext ρ S; simp only [evE, hpg, hf, hb, hc, if_true]; rw [if_neg (by decide)]; rfl) (no_bad nE)
                  · exact sE (o (by intro a' T q z; exact hb2 ⟨T, q, (List.cons.inj (List.cons.inj z).2).1⟩)) (no_bad nE)
              · by_cases hst : setSorted g sc x es = true
                · obtain ⟨y, q, a, pos2, rfl, h1, h2, h3, h4, h5, h6⟩ := setSorted_is hst
                  subst h1; subst h2
                  exact sE (by funext ρ S; simp only [evE, hpg, hf, hb, hst, if_true]; rw [if_neg (by decide)] <;> rfl) (den_setsort c hg hb h3 h5 h6 (ih.t c a))
                · by_cases hbc : biC x = true
                  · cases es with
                    | nil => exact sE (by funext ρ S; simp only [evE, hpg, hf, hb, hst, if_false, hbc, if_true]; rw [if_neg (by decide), if_neg hi] <;> rfl) (no_bad nE)
                    | cons e1 es1 =>
                      by_cases hs : (e1 :: es1).all notStar = true
                      · exact sE (by funext ρ S; simp only [evE, hpg, hf, hb, hst, if_false, hbc, hs, if_true]; rw [if_neg (by decide), if_neg hi] <;> rfl) (den_bi c hp hg hb hbc hs (ih.ts c _ hs))
                      · exact sE (by funext ρ S; simp only [evE, hpg, hf, hb, hst, if_false, hbc, hs, if_true]; rw [if_neg (by decide), if_neg hi]; rfl) (no_bad nE)
                  · exact sE (by funext ρ S; simp only [evE, hpg, hf, hb, hst, if_false, hbc, if_true]; rw [if_neg (by decide), if_neg hi]; rfl) (no_bad nE)
            · by_cases hcl : g.cl x = true
              · cases hq : g.mt x "__init__" with
                | none => exact sE (by funext ρ S; simp only [evE, hpg, hf, hb, hcl, hq, if_true]; rfl) (no_bad nE)
                | some q =>
                  cases es with
                  | nil => exact sE (by funext ρ S; simp only [evE, hpg, hf, hb, hcl, hq, if_true]; rfl) (no_bad nE)
                  | cons e1 es1 =>
                    by_cases hs : (e1 :: es1).all notStar = true
                    · exact sE (by funext ρ S; simp only [evE, hpg, hf, hb, hcl, hq, hs, if_true]; rfl) (den_make c hp hg hcl hq hs (ih.a c _ hs))
                    · exact sE (by funext ρ S; simp only [evE, hpg, hf, hb, hcl, hq, hs, if_true]; rfl) (no_bad nE)
              · exact sE (by funext ρ S; simp only [evE, hpg, hf, hb, hcl, if_true]; rfl) (no_bad nE)
        · exact sE (by funext ρ S; simp only [evE, hpg]; rfl) (no_bad nE)
    | Attribute o m apos =>
      cases ks with
      | cons _ _ => exact no_bad nE
      | nil =>
        cases es with
        | nil =>
          by_cases hp : m = "pop"
          · subst hp
            by_cases hc : (baseB o && (apos.endLine == pos.line)) = true
            · have h1 := Bool.and_eq_true_iff.mp hc
              exact sE (by funext ρ S; simp only [evE, hc, if_true]) (den_pop h1.1 h1.2 (ih.e c o))
            · exact sE (by funext ρ S; simp only [evE, hc, if_true]; rfl) (no_bad nE)
          · by_cases hc : (baseB o && (apos.endLine == pos.line)) = true
            · have h1 := Bool.and_eq_true_iff.mp hc
              exact sE (by funext ρ S; simp only [evE, hc, hp, if_true, if_false] <;> rfl) (den_meth0 c h1.1 h1.2 (ih.t c o))
            · exact sE (by funext ρ S; simp only [evE, hc, hp, if_false]; rfl) (no_bad nE)
        | cons a es =>
          cases es with
          | cons b es =>
            by_cases hc : (baseB o && (a :: b :: es).all notStar && (apos.endLine == pos.line) && decide ((a :: b :: es).length < 20)) = true
            · have h1 := hc
              simp only [Bool.and_eq_true, decide_eq_true_eq] at h1
              exact sE (by funext ρ S; simp only [evE, hc, if_true] <;> rfl) (den_meth c h1.1.1.1 h1.1.2 h1.1.1.2 h1.2 (ih.t c o) (ih.a c _ h1.1.1.2))
            · exact sE (by funext ρ S; simp only [evE, hc]; rfl) (no_bad nE)
          | nil =>
            by_cases hm : m = "split"
            · subst hm
              by_cases hc : (nameOrC o && notStar a && (apos.endLine == pos.line)) = true
              · have hc0 := hc
                simp only [Bool.and_eq_true] at hc0
                obtain ⟨⟨h1, h2⟩, h3⟩ := hc0
                exact sE (by funext ρ S; simp only [evE, hc, if_true]) (den_split h1 h2 h3 (ih.t c o) (ih.e c a))
              · exact sE (by funext ρ S; simp only [evE, hc, if_true]; rfl) (no_bad nE)
            · by_cases hj : m = "join"
              · subst hj
                by_cases hc : (nameOrC o && notStar a && (apos.endLine == pos.line)) = true
                · have hc0 := hc
                  simp only [Bool.and_eq_true] at hc0
                  obtain ⟨⟨h1, h2⟩, h3⟩ := hc0
                  exact sE (by funext ρ S; simp only [evE, hc, if_true]; rw [if_neg (by decide)]) (den_join h1 h2 h3 (ih.t c o) (ih.e c a))
                · exact sE (by funext ρ S; simp only [evE, hc, if_true]; rw [if_neg (by decide)]; rfl) (no_bad nE)
              · by_cases hc : (baseB o && notStar a && (apos.endLine == pos.line)) = true
                · have hc0 := hc
                  simp only [Bool.and_eq_true] at hc0
                  obtain ⟨⟨h1, h2⟩, h3⟩ := hc0
                  have hs : [a].all notStar = true := by simp [h2]
                  exact sE (by funext ρ S; simp only [evE, hc, if_true]; rw [if_neg hm, if_neg hj] <;> rfl) (den_meth c h1 h3 hs (by show 1 < 20; decide) (ih.t c o) (ih.a c _ hs))
                · exact sE (by funext ρ S; simp only [evE, hc]; rw [if_neg hm, if_neg hj]; rfl) (no_bad nE)
    | _ => exact no_bad nE
  | Attribute o f pos =>
    by_cases hb : baseB o = true
    · exact sE (by funext ρ S; simp only [evE, hb, if_true]) (den_fld c hb (ih.t c o))
    · exact sE (by funext ρ S; simp only [evE, hb]; rfl) (no_bad nE)
  | Subscript a i pos =>
    by_cases hi : notSlice i = true
    · refine sE ?_ (den_item c.ew c.hu (plainIx_of hi) (ih.t c a) (ih.e c i))
      funext ρ S
      cases i <;> first | rfl | cases hi
    · cases i with
      | Slice lo up st p2 =>
        cases st with
        | none => exact den_slice (ih.t c a) (ih.o c lo) (ih.o c up)
        | some st =>
          cases lo with
          | some _ => cases up <;> exact no_bad nE
          | none =>
            cases up with
            | some _ => exact no_bad nE
            | none =>
              by_cases hm : minus1 (some st) = true
              · exact sE (by funext ρ S; simp only [evE, hm, if_true]) (den_back hm (ih.t c a))
              · exact sE (by funext ρ S; simp only [evE, hm] <;> rfl) (no_bad nE)
      | _ => exact absurd rfl hi
  | Tuple es kk pos =>
    by_cases hs : es.all notStar = true
    · exact sE (by funext ρ S; simp only [evE, hs]; rfl) (den_tup (ih.a c es hs))
    · exact sE (by funext ρ S; simp only [evE, hs]; rfl) (no_bad nE)
  | List es pos =>
    cases es with
    | nil => exact den_lst0
    | cons e1 es =>
      by_cases hs : (e1 :: es).all notStar = true
      · exact sE (by funext ρ S; simp only [evE, hs]; rfl) (den_lst (ih.a c (e1 :: es) hs))
      · exact sE (by funext ρ S; simp only [evE, hs]; rfl) (no_bad nE)
  | ListComp elt cs scope pos =>
    match cs with
    | [] => exact sE (by funext ρ S; simp only [evE]) (no_bad nE)
    | _ :: _ :: _ :: _ => exact sE (by funext ρ S; simp only [evE]) (no_bad nE)
    | [⟨tg, it, ifs, as⟩, ⟨tg1, it1, ifs1, as1⟩] =>
      by_cases h0 : as = 0 ∧ as1 = 0
      · obtain ⟨rfl, rfl⟩ := h0
        by_cases hc : (blkC N sc scope (ownOf N scope) && (tgtIx N n tg).all (fun i => decide (i ∈ (ownOf N scope).map (·.2))) && notSet it && ((tgtIx N n tg1).all (fun i => decide (i ∈ (ownOf N scope).map (·.2))) && notSet it1)) = true
        · have h1 := hc
          simp only [Bool.and_eq_true] at hc
          obtain ⟨⟨⟨hb, hx⟩, hse⟩, hx1, hse1⟩ := hc
          refine sE (by funext ρ S; simp only [evE, h1, if_true]) (den_lc2 c (ih.it c tg it) hb (fun i hi => of_decide_eq_true (List.all_eq_true.mp hx i hi)) (fun i hi => of_decide_eq_true (List.all_eq_true.mp hx1 i hi)) (fun d ρ ρ' z => (asg_own n).1 tg d ρ ρ' z)
            (fun s H C' cl fp => (tgt_ok (blk_tok c s H scope C' cl fp) n).1 tg) (fun s H C' cl fp => ih.ifs (c.blk s H scope C' cl fp) ifs) (fun s H C' cl fp => ih.it (c.blk s H scope C' cl fp) tg1 it1)
            (fun s H C' cl fp => (tgt_ok (blk_tok c s H scope C' cl fp) n).1 tg1) (fun s H C' cl fp => ih.ifs (c.blk s H scope C' cl fp) ifs1) (fun s H C' cl fp => ih.e (c.blk s H scope C' cl fp) elt) (fold_ok hse) (fun env => fold_ok hse1))
        · exact sE (by funext ρ S; simp only [evE, hc]; rfl) (no_bad nE)
      · refine sE ?_ (no_bad nE)
        funext ρ S
        unfold evE
        dsimp only
        split
        · rename_i z
          simp at z
        · rename_i z
          injection z with z1 z2
          injection z1 with _ _ _ z4
          injection z2 with z2 _
          injection z2 with _ _ _ z5
          exact absurd ⟨z4, z5⟩ h0
        · rfl
    | [⟨tg, it, ifs, as⟩] =>
      by_cases h0 : as = 0
      · subst h0
        by_cases hc : (blkC N sc scope (ownOf N scope) && (tgtIx N n tg).all (fun i => decide (i ∈ (ownOf N scope).map (·.2))) && notSet it) = true
        · have h1 := hc
          simp only [Bool.and_eq_true] at hc
          obtain ⟨⟨hb, hx⟩, hse⟩ := hc
          refine sE (by funext ρ S; simp only [evE, h1, if_true]) (den_lc c (ih.it c tg it) hb (fun i hi => of_decide_eq_true (List.all_eq_true.mp hx i hi)) (fun s H C' cl fp xe => (tgt_ok (blk_tokX c s H scope C' cl fp xe) n).1 tg)
            (fun s H C' cl fp xe => ih.ifs (c.blkX s H scope C' cl fp xe noTk) ifs) (fun s H C' cl fp xe Xe tk => ih.e (c.blkX s H scope C' cl fp xe tk) elt) (fold_ok hse))
        · exact sE (by funext ρ S; simp only [evE, hc]; rfl) (no_bad nE)
      · refine sE ?_ (no_bad nE)
        funext ρ S
        unfold evE
        dsimp only
        split
        · rename_i z
          injection z with z1 _
          injection z1 with _ _ _ z4
          exact absurd z4 h0
        · rename_i z
          simp at z
        · rfl
  | DictComp kx vx cs scope pos =>
    by_cases hv : ∃ q1 q2, vx = .Constant (.bool true) q1 q2
    · match cs with
      | [] => exact sE (by funext ρ S; simp only [evE]) (no_bad nE)
      | _ :: _ :: _ => exact sE (by funext ρ S; simp only [evE]) (no_bad nE)
      | [⟨tg, it, ifs, as⟩] =>
        by_cases h0 : as = 0
        · subst h0
          by_cases hc : (blkC N sc scope (ownOf N scope) && (tgtIx N n tg).all (fun i => decide (i ∈ (ownOf N scope).map (·.2))) && notSet it) = true
          · have h1 := hc
            have hv2 := hv
            obtain ⟨q1, q2, rfl⟩ := hv
            simp only [Bool.and_eq_true] at hc
            obtain ⟨⟨hb, hx⟩, hse⟩ := hc
            refine sE (by funext ρ S; simp only [evE, h1, if_true]) (den_dc c (ih.it c tg it) hb (fun i hi => of_decide_eq_true (List.all_eq_true.mp hx i hi)) (fun s H C' cl fp => (tgt_ok (blk_tok c s H scope C' cl fp) n).1 tg)
              (fun s H C' cl fp => ih.ifs (c.blk s H scope C' cl fp) ifs) (fun s H C' cl fp => ih.e (c.blk s H scope C' cl fp) kx) hv2 (fold_ok hse))
          · obtain ⟨q1, q2, rfl⟩ := hv
            exact sE (by funext ρ S; simp only [evE, hc]; rfl) (no_bad nE)
        · refine sE ?_ (no_bad nE)
          funext ρ S
          unfold evE
          dsimp only
          split
          · exfalso
            simp_all
          · rfl
    · refine sE ?_ (no_bad nE)
      funext ρ S
      unfold evE
      dsimp only
      split
      · exact absurd ⟨_, _, rfl⟩ hv
      · rfl
  | Dict ks vs pos =>
    cases ks with
    | nil =>
      cases vs with
      | nil => exact den_dict0
      | cons _ _ => exact no_bad nE
    | cons ka ks =>
      cases ks with
      | cons _ _ => cases ka <;> cases vs <;> exact no_bad nE
      | nil =>
        cases ka with
        | none => exact no_bad nE
        | some a =>
          cases vs with
          | nil => exact no_bad nE
          | cons b vs =>
            cases vs with
            | cons _ _ => exact no_bad nE
            | nil => exact den_dict1 c.ew c.hu (ih.e c a) (ih.e c b)
  | _ => exact no_bad nE
end
end Lw
set_option maxHeartbeats 2000000
/-! LwG: the evaluator is right for every expression, test, argument list, walk. -/
namespace Lw
open PySem PySem.Spec PyProof.Rows L2
section
variable {g : G} {C : Call} {ev : Str → Value} {E : Ent} {N : List Str} {k n : Nat} {X : Cx} {sc : Scope} {Xw : Str → L2.St → Hp → Prop}
theorem snd_t (ih : Snd g C ev E N k n) (c : Cok X g C ev E N sc Xw k) (e : Expr) : PE X e (tT X.K E Xw (evT g C N (n + 1) sc e)) := by
  by_cases hn : ∃ x p, e = .Name x p
  · obtain ⟨x, p, rfl⟩ := hn
    by_cases hc : (plainName x && visB sc x) = true
    · obtain ⟨h1, h2⟩ := Bool.and_eq_true_iff.mp hc
      exact sT (by funext ρ S; simp only [evT, hc, if_true] <;> cases getSl ρ (ixOf N x) <;> rfl) (den_nameT c h1 h2)
    · exact sT (by funext ρ S; simp only [evT, hc]; rfl) (den_T (ih.e c (.Name x p)))
  · by_cases hl : ∃ p, e = .List [] p
    · obtain ⟨p, rfl⟩ := hl
      exact den_T den_nilF
    · refine sT ?_ (den_T (ih.e c e))
      funext ρ S
      cases e with
      | Name x p => exact absurd ⟨_, _, rfl⟩ hn
      | List es p =>
        cases es with
        | nil => exact absurd ⟨_, rfl⟩ hl
        | cons _ _ => rfl
      | _ => rfl
theorem snd_a (ih : Snd g C ev E N k n) (c : Cok X g C ev E N sc Xw k) (es : List Expr) (hs : es.all notStar = true) : PA X es (tA X.K E Xw (evA g C N (n + 1) sc es)) := by
  cases es with
  | nil => exact den_anil
  | cons e es =>
    have q := Bool.and_eq_true_iff.mp (show (notStar e && es.all notStar) = true from hs)
    exact den_acons q.1 (ih.e c e) (ih.a c es q.2)
theorem snd_ts (ih : Snd g C ev E N k n) (c : Cok X g C ev E N sc Xw k) (es : List Expr) (hs : es.all notStar = true) : PA X es (tTs X.K E Xw (evTs g C N (n + 1) sc es)) := by
  cases es with
  | nil => exact den_tsnil
  | cons e es =>
    have q := Bool.and_eq_true_iff.mp (show (notStar e && es.all notStar) = true from hs)
    exact den_tscons q.1 (ih.t c e) (ih.ts c es q.2)
theorem snd_o (ih : Snd g C ev E N k n) (c : Cok X g C ev E N sc Xw k) (o : Option Expr) : PO X o (tO X E Xw (evO g C N (n + 1) sc o)) := by
  cases o with
  | none => exact den_onone
  | some e => exact den_osome (ih.e c e)
theorem snd_bool (ih : Snd g C ev E N k n) (c : Cok X g C ev E N sc Xw k) (op : BoolOp) (e : Expr) (es : List Expr) (pos : Pos) : PE X (.BoolOp op (e :: es) pos) (tE X.K E Xw (evBool g C N (n + 1) sc op e es)) := by
  cases es with
  | nil => exact pe_one (ih.e c e)
  | cons e2 es2 =>
    cases op with
    | And => exact den_and (ih.e c e) (ih.bool c .And e2 es2 pos)
    | Or => exact den_or (ih.e c e) (ih.bool c .Or e2 es2 pos)
theorem snd_tests (ih : Snd g C ev E N k n) (c : Cok X g C ev E N sc Xw k) (op : BoolOp) (e : Expr) (es : List Expr) (pos : Pos) : PW X (.BoolOp op (e :: es) pos) (tBl X.K E Xw (evTests g C N (n + 1) sc op e es)) := by
  cases es with
  | nil =>
    cases op with
    | And => exact pw_and1 (ih.test c e)
    | Or => exact pw_or1 (ih.test c e)
  | cons e2 es2 =>
    cases op with
    | And => exact den_wand (ih.test c e) (ih.tests c .And e2 es2 pos)
    | Or => exact den_wor (ih.test c e) (ih.tests c .Or e2 es2 pos)
theorem snd_ifs (ih : Snd g C ev E N k n) (c : Cok X g C ev E N sc Xw k) (es : List Expr) : PTs X es (tBl X.K E Xw (evIfs g C N (n + 1) sc es)) := by
  match es with
  | [] => exact den_ifs0
  | [e] => exact den_ifs1 (ih.test c e)
  | _ :: _ :: _ => exact ⟨fun _ _ _ _ _ _ ⟨_, _, _, _, h⟩ => h.elim⟩
/-- a comparison as a test, told as evTest tells it -/
theorem cmp_test {a : Expr} {ops : List CmpOp} {bs : List Expr} {pos : Pos} (ih : Snd g C ev E N k n) (c : Cok X g C ev E N sc Xw k) : PT X (.Compare a ops bs pos) (tBl X.K E Xw fun ρ S => (evE g C N (n + 1) sc (.Compare a ops bs pos) ρ S).bind fun d S1 => (match d with
      | .bl b => .ok b S1
      | _ => .bad)) := by
  have bad : (∀ ρ S, evE g C N (n + 1) sc (.Compare a ops bs pos) ρ S = .bad) → PT X (.Compare a ops bs pos) (tBl X.K E Xw fun ρ S => (evE g C N (n + 1) sc (.Compare a ops bs pos) ρ S).bind fun d S1 => (match d with
      | .bl b => .ok b S1
      | _ => .bad)) := fun hb => sB (by funext ρ S; rw [hb]; rfl) (no_badT nB)
  cases ops with
  | nil => cases bs <;> exact bad fun _ _ => rfl
  | cons op ops =>
    cases ops with
    | nil =>
      cases bs with
      | nil => exact bad fun _ _ => rfl
      | cons b bs =>
        cases bs with
        | nil =>
          by_cases hm : lastMarks [op] [b] = true
          · exact bad fun ρ S => by simp only [evE, hm, if_true]
          · exact sB (by funext ρ S; simp only [evE, hm]; rfl) (den_cmpT (by simpa [lastMarks] using hm) c.ew c.hu (ih.t c a) (ih.t c b))
        | cons _ _ => exact bad fun _ _ => rfl
    | cons op2 ops =>
      cases ops with
      | cons _ _ => cases bs <;> exact bad fun _ _ => rfl
      | nil =>
        cases bs with
        | nil => exact bad fun _ _ => rfl
        | cons b bs =>
          cases bs with
          | nil => exact bad fun _ _ => rfl
          | cons b2 bs =>
            cases bs with
            | cons _ _ => exact bad fun _ _ => rfl
            | nil =>
              by_cases hm : lastMarks [op, op2] [b, b2] = true
              · exact bad fun ρ S => by simp only [evE, hm, if_true]
              · exact sB (by funext ρ S; simp only [evE, hm]; rfl) (den_chainT (by simpa using hm) c.ew c.hu (ih.t c a) (ih.t c b) (ih.t c b2))
theorem snd_test (ihm : ∀ m, m ≤ n → Snd g C ev E N k m) (c : Cok X g C ev E N sc Xw k) (e : Expr) : PT X e (tBl X.K E Xw (evTest g C N (n + 1) sc e)) := by
  have ih := ihm n (Nat.le_refl _)
  cases e with
  | UnaryOp op a p =>
    cases op with
    | Not => exact den_notT (ih.test c a)
    | _ => exact den_tru (by intro _; rfl) (ih.t c _)
  | BoolOp op es p =>
    cases es with
    | nil => exact no_badT nB
    | cons e1 es1 => exact (ih.tests c op e1 es1 p).pt
  | IfExp _ _ _ _ => exact no_badT nB
  | Compare a ops bs p =>
    cases n with
    | zero => exact no_badT nB
    | succ m => exact cmp_test (ihm m (Nat.le_succ _)) c
  | _ => exact den_tru (by intro _; rfl) (ih.t c _)
theorem snd_it (ih : Snd g C ev E N k n) (c : Cok X g C ev E N sc Xw k) (tg e : Expr) : PI X tg e (tI X.K E Xw (evI g C N (n + 1) sc tg e)) := by
  by_cases hn : ∃ f es ks p, e = .Call f es ks p
  · obtain ⟨f, es, ks, p, rfl⟩ := hn
    by_cases hx : ∃ x q, f = .Name x q ∧ ks = []
    · obtain ⟨x, q, rfl, rfl⟩ := hx
      by_cases hc : (plainName x && glB sc x && !(g.fn x).isSome && g.bi x) = true
      · have h0 := hc
        simp only [Bool.and_eq_true] at hc
        obtain ⟨⟨⟨h1, h2⟩, h3⟩, h4⟩ := hc
        by_cases hr : x = "range"
        · subst hr
          match es with
          | [a] =>
            by_cases hs : notStar a = true
            · refine sI ?_ (den_range1 c h2 h4 hs (ih.a c [a] (by simp [hs])))
              funext ρ S
              simp only [evI, h0, hs, if_true]
            · exact sI (by funext ρ S; simp only [evI, h0, hs, if_true]; rfl) (no_badI nI)
          | [a, b] =>
            by_cases hs : (notStar a && notStar b) = true
            · obtain ⟨s1, s2⟩ := Bool.and_eq_true_iff.mp hs
              refine sI ?_ (den_range2 c h2 h4 s1 s2 (ih.a c [a, b] (by simp [s1, s2])))
              funext ρ S
              simp only [evI, h0, hs, if_true]
            · exact sI (by funext ρ S; simp only [evI, h0, hs, if_true]; rfl) (no_badI nI)
          | [] => exact sI (by funext ρ S; simp only [evI, h0, if_true]) (no_badI nI)
          | _ :: _ :: _ :: _ => exact sI (by funext ρ S; simp only [evI, h0, if_true]) (no_badI nI)
        · by_cases hz : x = "zip"
          · subst hz
            match es with
            | [a, b] =>
              by_cases ht : ∃ elts kk tp, tg = .Tuple elts kk tp
              · obtain ⟨elts, kk, tp, rfl⟩ := ht
                by_cases hs : (notStar a && notStar b) = true
                · obtain ⟨s1, s2⟩ := Bool.and_eq_true_iff.mp hs
                  refine sI ?_ (den_zip c h2 h4 s1 s2 (ih.a c [a, b] (by simp [s1, s2])))
                  funext ρ S
                  simp only [evI, h0, hs, isTup, Bool.and_true, if_true]
                  rw [if_neg (by decide)]
                · refine sI ?_ (no_badI nI)
                  funext ρ S
                  simp only [evI, h0, hs, isTup, Bool.and_true, if_true]
                  rw [if_neg (by decide)]
                  rfl
              · refine sI ?_ (no_badI nI)
                funext ρ S
                have e0 : isTup tg = false := by cases tg <;> first | rfl | exact absurd ⟨_, _, _, rfl⟩ ht
                simp only [evI, h0, e0, Bool.and_false, if_true]
                rw [if_neg (by decide)]
                rfl
            | [] => exact sI (by funext ρ S; simp only [evI, h0, if_true]; rw [if_neg (by decide)]) (no_badI nI)
            | [_] => exact sI (by funext ρ S; simp only [evI, h0, if_true]; rw [if_neg (by decide)]) (no_badI nI)
            | _ :: _ :: _ :: _ => exact sI (by funext ρ S; simp only [evI, h0, if_true]; rw [if_neg (by decide)]) (no_badI nI)
          · by_cases hen : x = "enumerate"
            · subst hen
              match es with
              | [a] =>
                by_cases ht : ∃ elts kk tp, tg = .Tuple elts kk tp
                · obtain ⟨elts, kk, tp, rfl⟩ := ht
                  by_cases hs : notStar a = true
                  · refine sI ?_ (den_enum c h2 h4 hs (ih.a c [a] (by simp [hs])))
                    funext ρ S
                    simp only [evI, h0, hs, isTup, Bool.and_true, if_true]
                    rw [if_neg (by decide), if_neg (by decide)]
                  · refine sI ?_ (no_badI nI)
                    funext ρ S
                    simp only [evI, h0, hs, isTup, Bool.and_true, if_true]
                    rw [if_neg (by decide), if_neg (by decide)]
                    rfl
                · refine sI ?_ (no_badI nI)
                  funext ρ S
                  have e0 : isTup tg = false := by cases tg <;> first | rfl | exact absurd ⟨_, _, _, rfl⟩ ht
                  simp only [evI, h0, e0, Bool.and_false, if_true]
                  rw [if_neg (by decide), if_neg (by decide)]
                  rfl
              | [] => exact sI (by funext ρ S; simp only [evI, h0, if_true]; rw [if_neg (by decide), if_neg (by decide)]) (no_badI nI)
              | _ :: _ :: _ => exact sI (by funext ρ S; simp only [evI, h0, if_true]; rw [if_neg (by decide), if_neg (by decide)]) (no_badI nI)
            · refine sI ?_ (den_seq (ih.e c _))
              funext ρ S
              simp only [evI, h0, if_true]
              rw [if_neg hr, if_neg hz, if_neg hen]
      · refine sI ?_ (den_seq (ih.e c _))
        funext ρ S
        simp only [evI, hc]
        rfl
    · refine sI ?_ (den_seq (ih.e c _))
      funext ρ S
      cases f <;> first | rfl | (cases ks <;> first | rfl | exact absurd ⟨_, _, rfl, rfl⟩ hx)
  · refine sI ?_ (den_seq (ih.e c e))
    funext ρ S
    cases e <;> first | rfl | exact absurd ⟨_, _, _, _, rfl⟩ hn
theorem snd_all (g : G) (C : Call) (ev : Str → Value) (E : Ent) (N : List Str) (k : Nat) : ∀ n, ∀ m, m ≤ n → Snd g C ev E N k m
  | 0, m, h => by
    have e : m = 0 := Nat.le_zero.mp h
    subst e
    exact snd0
  | n + 1, m, h => by
    have ihm := snd_all g C ev E N k n
    by_cases e : m ≤ n
    · exact ihm m e
    · have e2 : m = n + 1 := by omega
      subst e2
      have ih := ihm n (Nat.le_refl _)
      exact ⟨snd_e ih, snd_t ih, snd_a ih, snd_ts ih, snd_o ih, snd_bool ih, snd_test ihm, snd_tests ih, snd_ifs ih, snd_it ih⟩
theorem snd_n (g : G) (C : Call) (ev : Str → Value) (E : Ent) (N : List Str) (k n : Nat) : Snd g C ev E N k n := snd_all g C ev E N k n n (Nat.le_refl _)
end
end Lw
set_option maxHeartbeats 2000000
/-! LwH: statements. -/
namespace Lw
open PySem PySem.Spec PyProof.Rows L2

/-- what is wanted of a statement's end -/
def ORes (K : PySem.W.Frag) (E : Ent) (Xw : Str → L2.St → Hp → Prop) (W : Wd) (H : Hp) (o : O) (D : Ends) : Prop := match o with
  | .nx ρ' S' => ∀ W' H' σ', Pre K W H W' H' → Rel K E W' H' ρ' σ' S' → D.nx σ' H'
  | .brk ρ' S' => ∀ W' H' σ', Pre K W H W' H' → Rel K E W' H' ρ' σ' S' → D.bk σ' H'
  | .cnt ρ' S' => ∀ W' H' σ', Pre K W H W' H' → Rel K E W' H' ρ' σ' S' → D.ct σ' H'
  | .ret d S' => ∀ W' H', Le E.W E.H W' H' → WS K W' H' S' → ∀ v, Rep K W' H' d v → D.rt v H'
  | .err c ρ' S' => ∀ W' H' σ', Rel K E W' H' ρ' σ' S' → Xw c σ' H'
  | .bad => False
section
variable {K : PySem.W.Frag} {E : Ent} {Xw : Str → L2.St → Hp → Prop} {W W' W1 : Wd} {H H' H1 : Hp} {S S' S1 : Sto} {ρ ρ' : Ev} {σ σ' : L2.St} {D : Ends} {o : O}
theorem ORes.pre (p : Pre K W H W1 H1) (h : ORes K E Xw W H o D) : ORes K E Xw W1 H1 o D := by
  cases o with
  | nx ρ' S' => exact fun W' H' σ' q r => h W' H' σ' (p.trans q) r
  | brk ρ' S' => exact fun W' H' σ' q r => h W' H' σ' (p.trans q) r
  | cnt ρ' S' => exact fun W' H' σ' q r => h W' H' σ' (p.trans q) r
  | ret d S' => exact h
  | err c ρ' S' => exact h
  | bad => exact h
/-- behind a reckoning in a statement -/
theorem ORes.run {α : Type} {r : R α} {f : α → Sto → O} (rel : Rel K E W H ρ σ S) (h : ORes K E Xw W H (r.run ρ f) D) : Res K E Xw W H ρ σ r fun a S1 W1 H1 => ORes K E Xw W1 H1 (f a S1) D := by
  cases r with
  | ok a S' => exact fun W' H' l w => ORes.pre (l.pre rel.ws) (show ORes K E Xw W H (f a S') D from h)
  | err c S' => exact fun W' H' l w => h W' H' σ (rel.step l w)
  | bad => exact h
theorem OwnOk.held {a : Addr} {ds : List Lw.D} (h : OwnOk K E W H a ds) : ∃ vs, Held K W H a ds vs ∧ E.H a = none := by
  obtain ⟨vs, h1, h2, h3, h4, h5⟩ := h
  exact ⟨vs, ⟨h1, h2, h3, h4⟩, h5⟩
/-- a list of one's own is given away -/
theorem Rel.freeze1 (r : Rel K E W H ρ σ S) (i : Nat) : ∃ W', Rel K E W' H (ρ.set i (freezeSl (getSl ρ i))) σ S ∧ Pre K W H W' H := by
  cases e : getSl ρ i with
  | un =>
    have same : ρ.set i (freezeSl .un) = ρ ∨ i < ρ.length := by
      by_cases hi : i < ρ.length
      · exact .inr hi
      · exact .inl (List.set_eq_of_length_le (Nat.le_of_not_lt hi))
    rcases same with z | hi
    · rw [z]; exact ⟨W, r, Pre.refl⟩
    · have z : ρ.set i (freezeSl .un) = ρ := by
        apply List.ext_getElem?
        intro j
        by_cases q : j = i
        · subst q
          rw [List.getElem?_set_self hi]
          unfold getSl at e
          rw [List.getD_eq_getElem?_getD, List.getElem?_eq_getElem hi] at e
          rw [List.getElem?_eq_getElem hi]
          exact congrArg some e.symm
        · rw [List.getElem?_set_ne (Ne.symm q)]
      rw [z]; exact ⟨W, r, Pre.refl⟩
  | val d =>
    have hi := getSl_lt e (fun z => by cases z)
    obtain ⟨v, h1, h2⟩ := r.val i d e
    have q := r.set hi h2
    have z : σ.set i (some v) = σ := by
      apply List.ext_getElem?
      intro j
      by_cases q : j = i
      · subst q
        rw [List.getElem?_set_self (by rw [← r.len]; exact hi), h1]
      · rw [List.getElem?_set_ne (Ne.symm q)]
    rw [z] at q
    exact ⟨W, q, Pre.refl⟩
  | own ds =>
    have hi := getSl_lt e (fun z => by cases z)
    obtain ⟨a, h1, hown⟩ := r.own i ds e
    obtain ⟨vs, hd, hE⟩ := hown.held
    refine ⟨W.add a, ⟨ws_add r.ws (by rw [hd.at_]; exact fun z => by cases z) hd.ns, le_add r.le hE, by rw [List.length_set]; exact r.len, fun j d h => ?_, fun j es h => ?_, fun j l es fs b h2 h3 h4 h5 => ?_⟩, pre_add⟩
    · rw [getSl_set hi] at h
      by_cases q : j = i
      · rw [if_pos q] at h
        cases h
        subst q
        exact ⟨_, h1, .lst (.inr rfl) (.inl hd.at_) (hd.reps.pre pre_add)⟩
      · rw [if_neg q] at h
        obtain ⟨v, h6, h7⟩ := r.val j d h
        exact ⟨v, h6, h7.pre pre_add⟩
    · rw [getSl_set hi] at h
      by_cases q : j = i
      · rw [if_pos q] at h; cases h
      · rw [if_neg q] at h
        obtain ⟨b, h6, hb⟩ := r.own j es h
        obtain ⟨us, hd2, hE2⟩ := hb.held
        refine ⟨b, h6, us, hd2.at_, hd2.reps.pre pre_add, fun f => ?_, hd2.ns, hE2⟩
        rcases f with f | f
        · exact hd2.nf f
        · subst f
          exact q (r.apart j i es ds b h e h6 h1)
    · rw [getSl_set hi] at h2 h3
      by_cases q : j = i
      · rw [if_pos q] at h2; cases h2
      · by_cases q2 : l = i
        · rw [if_pos q2] at h3; cases h3
        · rw [if_neg q] at h2; rw [if_neg q2] at h3
          exact r.apart j l es fs b h2 h3 h4 h5
theorem Rel.freeze {N : List Str} : ∀ (xs : List Str) {W : Wd} {ρ : Ev}, Rel K E W H ρ σ S → ∃ W', Rel K E W' H (Lw.freeze N xs ρ) σ S ∧ Pre K W H W' H
  | [], W, ρ, r => ⟨W, r, Pre.refl⟩
  | x :: xs, W, ρ, r => by
    unfold Lw.freeze
    split
    · obtain ⟨W1, r1, p1⟩ := r.freeze1 (ixOf N x)
      obtain ⟨W2, r2, p2⟩ := Rel.freeze xs r1
      exact ⟨W2, r2, p1.trans p2⟩
    · exact Rel.freeze xs r
theorem freeze_len {N : List Str} : ∀ (xs : List Str) {ρ : Ev}, (Lw.freeze N xs ρ).length = ρ.length
  | [], _ => rfl
  | x :: xs, ρ => by
    unfold Lw.freeze
    rw [freeze_len xs]
    split
    · unfold fz; rw [List.length_set]
    · rfl
/-- a new list of one's own -/
theorem Rel.setOwn {i : Nat} {p : Addr} {ds : List Lw.D} {vs : List V} (r : Rel K E W H ρ σ S) (hi : i < ρ.length) (hd : Held K W H p ds vs) (hE : E.H p = none)
    (ap : ∀ j es b, j ≠ i → getSl ρ j = .own es → σ[j]? = some (some (.ref b)) → b ≠ p) : Rel K E W H (ρ.set i (.own ds)) (σ.set i (some (.ref p))) S where
  ws := r.ws
  le := r.le
  len := by rw [List.length_set, List.length_set]; exact r.len
  val := fun j e h => by
    rw [getSl_set hi] at h
    by_cases q : j = i
    · rw [if_pos q] at h; cases h
    · rw [if_neg q] at h
      rw [List.getElem?_set_ne (Ne.symm q)]
      exact r.val j e h
  own := fun j es h => by
    rw [getSl_set hi] at h
    by_cases q : j = i
    · rw [if_pos q] at h; cases h; subst q
      exact ⟨p, List.getElem?_set_self (by rw [← r.len]; exact hi), vs, hd.at_, hd.reps, hd.nf, hd.ns, hE⟩
    · rw [if_neg q] at h
      rw [List.getElem?_set_ne (Ne.symm q)]
      exact r.own j es h
  apart := fun j l es fs b h1 h2 h3 h4 => by
    rw [getSl_set hi] at h1 h2
    have hi' : i < σ.length := by rw [← r.len]; exact hi
    by_cases q : j = i
    · by_cases q2 : l = i
      · rw [q, q2]
      · exfalso
        rw [if_neg q2] at h2
        rw [List.getElem?_set_ne (Ne.symm q2)] at h4
        subst q
        rw [List.getElem?_set_self hi'] at h3
        cases h3
        exact ap l fs _ q2 h2 h4 rfl
    · by_cases q2 : l = i
      · exfalso
        rw [if_neg q] at h1
        rw [List.getElem?_set_ne (Ne.symm q)] at h3
        subst q2
        rw [List.getElem?_set_self hi'] at h4
        cases h4
        exact ap j es _ q h1 h3 rfl
      · rw [if_neg q] at h1; rw [if_neg q2] at h2
        rw [List.getElem?_set_ne (Ne.symm q)] at h3; rw [List.getElem?_set_ne (Ne.symm q2)] at h4
        exact r.apart j l es fs b h1 h2 h3 h4
/-- a list of one's own is written -/
theorem Rel.writeOwn {i : Nat} {p : Addr} {ds ds' : List Lw.D} {vs vs' : List V} (r : Rel K E W H ρ σ S) (e : getSl ρ i = .own ds) (hp : σ[i]? = some (some (.ref p))) (hd : Held K W H p ds vs) (hE : E.H p = none) (hl : vs'.length ≤ sizeLine) (hr : Reps K W H ds' vs') :
    Rel K E W (upd H p (.lst vs')) (ρ.set i (.own ds')) σ S where
  ws := own_ws r.ws hd hl
  le := le_own r.le hE
  len := by rw [List.length_set]; exact r.len
  val := fun j d h => by
    rw [getSl_set (getSl_lt e (fun z => by cases z))] at h
    by_cases q : j = i
    · rw [if_pos q] at h; cases h
    · rw [if_neg q] at h
      obtain ⟨v, h1, h2⟩ := r.val j d h
      exact ⟨v, h1, h2.pre (own_pre hd)⟩
  own := fun j es h => by
    rw [getSl_set (getSl_lt e (fun z => by cases z))] at h
    by_cases q : j = i
    · rw [if_pos q] at h; cases h; subst q
      exact ⟨p, hp, vs', upd_same, hr.pre (own_pre hd), hd.nf, hd.ns, hE⟩
    · rw [if_neg q] at h
      obtain ⟨b, h1, hb⟩ := r.own j es h
      obtain ⟨us, hd2, hE2⟩ := hb.held
      have ne : b ≠ p := fun z => q (r.apart j i es ds b h e h1 (by rw [z]; exact hp))
      exact ⟨b, h1, us, by rw [upd_ne ne]; exact hd2.at_, hd2.reps.pre (own_pre hd), hd2.nf, hd2.ns, hE2⟩
  apart := fun j l es fs b h1 h2 h3 h4 => by
    rw [getSl_set (getSl_lt e (fun z => by cases z))] at h1 h2
    by_cases q : j = i
    · by_cases q2 : l = i
      · rw [q, q2]
      · rw [if_neg q2] at h2; rw [q] at h3
        exact q.trans (r.apart i l ds fs b e h2 h3 h4)
    · by_cases q2 : l = i
      · rw [if_neg q] at h1; rw [q2] at h4
        exact (r.apart j i es ds b h1 e h3 h4).trans q2.symm
      · rw [if_neg q] at h1; rw [if_neg q2] at h2
        exact r.apart j l es fs b h1 h2 h3 h4
theorem Rel.writeSto {i : Nat} {ds' : List Lw.D} {vs' : List V} (r : Rel K E W H ρ σ S) (hi : i < W.n) (hl : vs'.length ≤ sizeLine) (hr : Reps K W H ds' vs') :
    Rel K E W (upd H (W.μ i) (.lst vs')) ρ σ (S.set i (.lst ds')) :=
  r.writeM hi ⟨vs', upd_same, hr.pre (sto_preM r.ws hi)⟩ (fun xs e => by cases e; exact hl) (fun xs e => by cases e) (fun ob u e => by cases e)
theorem ws_push {p : Addr} {ds : List Lw.D} {vs : List V} (w : WS K W H S) (hp : H p = none) (hl : vs.length ≤ sizeLine) (hr : Reps K W H ds vs) : WS K (W.push p) (upd H p (.lst vs)) (S ++ [.lst ds]) := by
  have f := free_none w hp
  exact ws_claim w f ⟨vs, upd_same, (hr.pre (free_pre f)).pre pre_push⟩ (fun xs e => by cases e; exact hl) (fun xs e => by cases e) (fun ob u e => by cases e)
theorem le_push {p : Addr} {o : HO} (w : WS K W H S) (hp : H p = none) : Le W H (W.push p) (upd H p o) := le_claim w.refl hp
end
end Lw
set_option maxHeartbeats 2000000
/-! LwV: a list of one's own is lent to a call: it stands in the store for as long. -/
namespace Lw
open PySem PySem.Spec PyProof.Rows L2
section
variable {K : PySem.W.Frag} {E : Ent} {W W' W2 : Wd} {H H' H2 : Hp} {S S' S2 : Sto} {ρ : Ev} {σ : L2.St}
mutual
/-- plain data know nothing of the store -/
theorem Rep.plain (hf : ∀ a, W.Fz a → W'.Fz a) : ∀ {d : Lw.D} {v : V}, Rep K W H d v → d.plain = true → Rep K W' H d v
  | _, _, .non, _ => .non
  | _, _, .bl b, _ => .bl b
  | _, _, .int i, _ => .int i
  | _, _, .str x, _ => .str x
  | _, _, .tup h r, p => .tup h (Reps.plain hf r (by simpa [D.plain] using p))
  | _, _, .lst f h r, p => .lst (hf _ f) h (Reps.plain hf r (by simpa [D.plain] using p))
  | _, _, .ref _, p => by simp [D.plain] at p
  | _, _, .dic _ _, p => by simp [D.plain] at p
theorem Reps.plain (hf : ∀ a, W.Fz a → W'.Fz a) : ∀ {ds : List Lw.D} {vs : List V}, Reps K W H ds vs → D.plains ds = true → Reps K W' H ds vs
  | _, _, .nil, _ => .nil
  | _, _, .cons r t, p => by
    have p2 : _ ∧ _ := Bool.and_eq_true_iff.mp (show (_ && _) = true from by simpa [D.plains] using p)
    exact .cons (Rep.plain hf r p2.1) (Reps.plain hf t p2.2)
end
theorem EntsOk.plain {W' : Wd} (hf : ∀ a, W.Fz a → W'.Fz a) : ∀ {kvs : List (Lw.D × Lw.D)} {xs : List (NestedKey × Addr × Value)}, Paired (EntOk K W H) kvs xs → (kvs.all fun p => p.1.plain && p.2.plain) = true → Paired (EntOk K W' H) kvs xs
  | _, _, .nil, _ => .nil
  | _, _, .cons r t, h => by
    rw [List.all_cons, Bool.and_eq_true, Bool.and_eq_true] at h
    obtain ⟨v, v1, v2⟩ := r.val
    exact .cons ⟨r.key, Rep.plain hf r.rep h.1.1, v, v1, Rep.plain hf v2 h.1.2⟩ (EntsOk.plain hf t h.2)
theorem FldsOk.plain {W' : Wd} (hf : ∀ a, W.Fz a → W'.Fz a) : ∀ {fs : List (Str × Lw.D)} {gs : List (Str × V)}, Paired (FldOk K W H) fs gs → (fs.all fun p => p.2.plain) = true → Paired (FldOk K W' H) fs gs
  | _, _, .nil, _ => .nil
  | _, _, .cons r t, h => by
    rw [List.all_cons, Bool.and_eq_true] at h
    exact .cons ⟨r.nm, Rep.plain hf r.rep h.1⟩ (FldsOk.plain hf t h.2)
theorem DicAt.plain {W' : Wd} (hf : ∀ a, W.Fz a → W'.Fz a) (hw : W'.w = W.w) {a : Addr} {kvs : List (Lw.D × Lw.D)} (m : DicAt K W H a kvs) (h : (kvs.all fun p => p.1.plain && p.2.plain) = true) : DicAt K W' H a kvs := by
  obtain ⟨o, es, ep, xs, h1, h2, h3, h4, h5, h6, h7, h8⟩ := m
  exact ⟨o, es, ep, xs, h1, h2, h3, h4, h5, by rw [hw]; exact h6, h7, EntsOk.plain hf h8 h⟩
/-- it is lent: it goes to the store as it stands -/
theorem Rel.lend {i : Nat} {ds : List Lw.D} (r : Rel K E W H ρ σ S) (e : getSl ρ i = .own ds) : ∃ a, σ[i]? = some (some (.ref a)) ∧ Rel K E (W.push a) H (ρ.set i (.val (.ref S.length))) σ (S ++ [.lst ds]) ∧ Pre K W H (W.push a) H ∧ (W.push a).μ W.n = a ∧ (∃ vs, H a = some (.lst vs)) ∧
    ∀ j es b, j ≠ i → getSl ρ j = .own es → σ[j]? = some (some (.ref b)) → b ≠ a := by
  obtain ⟨a, ha, vs, h1, h2, h3, h4, h5⟩ := r.own i ds e
  have hi : i < ρ.length := getSl_lt e (fun z => by cases z)
  have P : Pre K W H (W.push a) H := ⟨fun _ _ h => h, fun _ h => h, fun _ _ _ h => h, Nat.le_succ _, fun j hj => push_old hj, rfl⟩
  have other : ∀ j es b, j ≠ i → getSl ρ j = .own es → σ[j]? = some (some (.ref b)) → b ≠ a := fun j es b ne he hb z => ne (r.apart j i es ds a he e (by rw [hb, z]) ha)
  refine ⟨a, ha, ⟨?_, ?_, by rw [List.length_set]; exact r.len, fun j d h => ?_, fun j es h => ?_, fun j l es fs b q1 q2 q3 q4 => ?_⟩, P, push_new, ⟨vs, h1⟩, other⟩
  · refine ⟨by rw [List.length_append, List.length_singleton, r.ws.len]; rfl, fun j o q => ?_, fun j l q1 q2 z => ?_, fun j hj f => ?_, r.ws.fz, r.ws.wf, r.ws.wft⟩
    · by_cases hj : j < S.length
      · rw [List.getElem?_append_left hj] at q
        rw [push_old (by rw [← r.ws.len]; exact hj)]
        exact (r.ws.ob j o q).pre P rfl
      · rw [List.getElem?_append_right (Nat.le_of_not_lt hj)] at q
        have hj2 : j = W.n := by
          rw [← r.ws.len]
          have := (List.getElem?_eq_some_iff.mp q).1
          rw [List.length_singleton] at this
          omega
        subst hj2
        rw [← r.ws.len, Nat.sub_self] at q
        cases q
        rw [push_new]
        exact ⟨vs, h1, h2.pre P⟩
    · have q1 : j < W.n + 1 := q1
      have q2 : l < W.n + 1 := q2
      rcases Nat.lt_or_eq_of_le (Nat.le_of_lt_succ q1) with j1 | j1 <;> rcases Nat.lt_or_eq_of_le (Nat.le_of_lt_succ q2) with l1 | l1
      · rw [push_old j1, push_old l1] at z; exact r.ws.inj j l j1 l1 z
      · rw [push_old j1, l1, push_new] at z; exact absurd z (h4 j j1)
      · rw [push_old l1, j1, push_new] at z; exact absurd z.symm (h4 l l1)
      · rw [j1, l1]
    · have hj : j < W.n + 1 := hj
      rcases Nat.lt_or_eq_of_le (Nat.le_of_lt_succ hj) with j1 | j1
      · rw [push_old j1] at f; exact r.ws.nfz j j1 f
      · rw [j1, push_new] at f; exact h3 f
  · refine ⟨r.le.keep, r.le.sto, Nat.le_trans r.le.n (Nat.le_succ _), fun j hj => (push_old (Nat.lt_of_lt_of_le hj r.le.n)).trans (r.le.mu j hj), r.le.fz, r.le.fz', fun j q1 q2 => ?_, r.le.w⟩
    have q2 : j < W.n + 1 := q2
    rcases Nat.lt_or_eq_of_le (Nat.le_of_lt_succ q2) with j1 | j1
    · rw [push_old j1]; exact r.le.new j q1 j1
    · rw [j1, push_new]; exact h5
  · rw [getSl_set hi] at h
    by_cases q : j = i
    · rw [if_pos q] at h
      cases h
      subst q
      refine ⟨.ref a, ha, ?_⟩
      have z : Rep K (W.push a) H (.ref W.n) (.ref ((W.push a).μ W.n)) := .ref (Nat.lt_succ_self _)
      rw [push_new] at z
      rw [r.ws.len]
      exact z
    · rw [if_neg q] at h
      obtain ⟨v, z1, z2⟩ := r.val j d h
      exact ⟨v, z1, z2.pre P⟩
  · rw [getSl_set hi] at h
    by_cases q : j = i
    · rw [if_pos q] at h; cases h
    · rw [if_neg q] at h
      obtain ⟨b, hb, us, g1, g2, g3, g4, g5⟩ := r.own j es h
      refine ⟨b, hb, us, g1, g2.pre P, g3, fun l hl z => ?_, g5⟩
      have hl : l < W.n + 1 := hl
      rcases Nat.lt_or_eq_of_le (Nat.le_of_lt_succ hl) with l1 | l1
      · rw [push_old l1] at z; exact g4 l l1 z
      · rw [l1, push_new] at z; exact other j es b q h hb z.symm
  · rw [getSl_set hi] at q1 q2
    by_cases z1 : j = i
    · rw [if_pos z1] at q1; cases q1
    · by_cases z2 : l = i
      · rw [if_pos z2] at q2; cases q2
      · rw [if_neg z1] at q1; rw [if_neg z2] at q2
        exact r.apart j l es fs b q1 q2 q3 q4
theorem Rel.back {i : Nat} {ds ds' : List Lw.D} {d : Lw.D} {v : V} {a : Addr} (r : Rel K E W H ρ σ S) (e : getSl ρ i = .own ds) (ha : σ[i]? = some (some (.ref a))) (oth : ∀ j es b, j ≠ i → getSl ρ j = .own es → σ[j]? = some (some (.ref b)) → b ≠ a)
    (r1 : Rel K E (W.push a) H (ρ.set i (.val (.ref S.length))) σ (S ++ [.lst ds])) (l : Le (W.push a) H W2 H2) (w : WS K W2 H2 S2) (hp : popD S.length d S2 = some (ds', S')) (rv : Rep K W2 H2 d v) :
    ∃ W3, Rel K E W3 H2 (ρ.set i (.own ds')) σ S' ∧ Pre K W H W3 H2 ∧ Rep K W3 H2 d v := by
  unfold popD at hp
  split at hp
  · rename_i hc
    obtain ⟨c1, c2, c3⟩ := hc
    have n2 : W2.n = W.n + 1 := by rw [← w.len, c1, r.ws.len]
    have hi : i < ρ.length := getSl_lt e (fun z => by cases z)
    have all : ∀ j o, S2[j]? = some o → plainM o = true := fun j o q => List.all_eq_true.mp c3 o (List.mem_of_getElem? q)
    obtain ⟨_, own2⟩ := r.own i ds e
    have ea : W2.μ W.n = a := by rw [l.mu W.n (Nat.lt_succ_self _), push_new]
    refine ⟨{ Fz := W2.Fz, n := W.n, μ := W2.μ, w := W2.w }, ?_⟩
    have P1 := l.pre r1.ws
    have P : Pre K W H { Fz := W2.Fz, n := W.n, μ := W2.μ, w := W2.w } H2 := ⟨P1.tup, P1.fz, P1.frz, Nat.le_refl _, fun j hj => (l.mu j (Nat.lt_succ_of_lt hj)).trans (push_old hj), P1.w⟩
    split at hp
    · rename_i ds2 h2
      obtain ⟨rfl, rfl⟩ : ds2 = ds' ∧ S2.take S.length = S' := by
        have z := Option.some.inj hp
        exact ⟨congrArg Prod.fst z, congrArg Prod.snd z⟩
      have hn : S.length = W.n := r.ws.len
      have m2 := w.ob S.length (.lst ds2) h2
      rw [hn, ea] at m2
      obtain ⟨vs2, g1, g2⟩ := m2
      have pl2 := all _ _ h2
      have L := r1.le.trans l
      refine ⟨⟨⟨?_, fun j o q => ?_, fun j k q1 q2 z => ?_, fun j hj f => ?_, w.fz, w.wf, w.wft⟩, ⟨L.keep, L.sto, r.le.n, L.mu, L.fz, L.fz', fun j q1 q2 => L.new j q1 (by rw [n2]; exact Nat.lt_succ_of_lt q2), L.w⟩, by rw [List.length_set]; exact r.len, fun j d' h => ?_, fun j es h => ?_, fun j k es fs b q1 q2 q3 q4 => ?_⟩, P, Rep.plain (W := W2) (W' := { Fz := W2.Fz, n := W.n, μ := W2.μ, w := W2.w }) (fun _ h => h) rv c2⟩
      · rw [List.length_take, c1, hn]
        exact Nat.min_eq_left (Nat.le_succ _)
      · have hj : j < S.length := by
          have := (List.getElem?_eq_some_iff.mp q).1
          rw [List.length_take] at this
          omega
        rw [List.getElem?_take, if_pos hj] at q
        have m := w.ob j o q
        have pj := all j o q
        cases o with
        | lst us =>
          obtain ⟨ws', k1, k2⟩ := m
          exact ⟨ws', k1, Reps.plain (W := W2) (W' := { Fz := W2.Fz, n := W.n, μ := W2.μ, w := W2.w }) (fun _ h => h) k2 pj⟩
        | dic kvs => exact DicAt.plain (W := W2) (W' := { Fz := W2.Fz, n := W.n, μ := W2.μ, w := W2.w }) (fun _ h => h) rfl m pj
        | ins c fs =>
          obtain ⟨dx, gs, k1, k2⟩ := m
          exact ⟨dx, gs, k1, FldsOk.plain (W := W2) (W' := { Fz := W2.Fz, n := W.n, μ := W2.μ, w := W2.w }) (fun _ h => h) k2 pj⟩
      · exact w.inj j k (by rw [n2]; exact Nat.lt_succ_of_lt q1) (by rw [n2]; exact Nat.lt_succ_of_lt q2) z
      · exact w.nfz j (by rw [n2]; exact Nat.lt_succ_of_lt hj) f
      · rw [getSl_set hi] at h
        by_cases q : j = i
        · rw [if_pos q] at h; cases h
        · rw [if_neg q] at h
          obtain ⟨u, z1, z2⟩ := r.val j d' h
          exact ⟨u, z1, z2.pre P⟩
      · rw [getSl_set hi] at h
        by_cases q : j = i
        · rw [if_pos q] at h
          cases h
          subst q
          refine ⟨a, ha, vs2, g1, Reps.plain (W := W2) (W' := { Fz := W2.Fz, n := W.n, μ := W2.μ, w := W2.w }) (fun _ h => h) g2 pl2, fun f => w.nfz W.n (by rw [n2]; exact Nat.lt_succ_self _) (by rw [ea]; exact f), fun k hk z => ?_, ?_⟩
          · have z2 : W2.μ k = W2.μ W.n := z.trans ea.symm
            have := w.inj k W.n (by rw [n2]; exact Nat.lt_succ_of_lt hk) (by rw [n2]; exact Nat.lt_succ_self _) z2
            exact absurd hk (by rw [this]; exact Nat.lt_irrefl _)
          · obtain ⟨a', ha', _, _, _, _, _, h5⟩ := r.own j ds e
            rw [ha] at ha'
            cases ha'
            exact h5
        · rw [if_neg q] at h
          obtain ⟨b, hb, us, k1, k2, k3, k4, k5⟩ := r.own j es h
          have nb := oth j es b q h hb
          have kk : ∀ k, k < W.n + 1 → (W.push a).μ k ≠ b := fun k hk z => by
            rcases Nat.lt_or_eq_of_le (Nat.le_of_lt_succ hk) with k1' | k1'
            · rw [push_old k1'] at z; exact k4 k k1' z
            · rw [k1', push_new] at z; exact nb z.symm
          refine ⟨b, hb, us, l.keep b _ k1 kk, k2.pre P, fun f => ?_, fun k hk z => ?_, k5⟩
          · rcases l.fz' b f with q' | q'
            · exact k3 q'
            · rw [k1] at q'; cases q'
          · exact kk k (Nat.lt_succ_of_lt hk) (by rw [← l.mu k (Nat.lt_succ_of_lt hk)]; exact z)
      · rw [getSl_set hi] at q1 q2
        by_cases z1 : j = i
        · by_cases z2 : k = i
          · rw [z1, z2]
          · rw [if_neg z2] at q2
            rw [z1, ha] at q3
            cases q3
            exact absurd rfl (oth k fs a z2 q2 q4)
        · by_cases z2 : k = i
          · rw [if_neg z1] at q1
            rw [z2, ha] at q4
            cases q4
            exact absurd rfl (oth j es a z1 q1 q3)
          · rw [if_neg z1] at q1; rw [if_neg z2] at q2
            exact r.apart j k es fs b q1 q2 q3 q4
    · cases hp
  · cases hp
end
end Lw
set_option maxHeartbeats 2000000
/-! LwI: the evaluator is right for statements. -/
namespace Lw
open PySem PySem.Spec PyProof.Rows L2

/-- a def's body -/
structure Sok (X : Cx) (g : G) (C : Call) (ev : Str → Value) (E : Ent) (N : List Str) (sc : Scope) (Xw : Str → L2.St → Hp → Prop) (k : Nat) : Prop where
  c : Cok X g C ev E N sc Xw k
  hp : PassesOwn (model X.prog X.w) X.A X.env X.xe
  tok : Tok' X N sc
  kind : sc.kind = .function
  exc : ∀ x, g.exc x = true → ∃ Ca, X.mg x = some (.ref Ca) ∧ ev x = .ref Ca ∧ PySem.W.excIn X.K Ca He.veBase "ValueError.__new__" = true ∧ PySem.W.keepIn X.K (.ref Ca) = true ∧
    PySem.W.subIn X.K (.ref Ca) (.type "BaseException") = some true ∧ PySem.W.typeIn X.K (.ref Ca) = some (.type "type")
  stk : X.stack = X.env :: X.outer
  frm : X.env.frame = some X.env.locals
  sub : ∀ c x b, g.sub c x = some b → PySem.W.exmOne X.K (ev c) (ev x) = some b
  cls : ∀ f c wd, g.cls f c = some wd → ∃ Ca fa fdat x, ev c = .ref Ca ∧ X.mg f = some (.ref fa) ∧ PySem.W.keepIn X.K (.ref fa) = true ∧ Binds X.K fdat [x] [] ∧ FnC X.prog X.w X.K X.mg X.base fa fdat x Ca wd
def tS (K : PySem.W.Frag) (E : Ent) (Xw : Str → L2.St → Hp → Prop) (f : Ev → Sto → O) : TS := fun D σ H => ∃ W ρ S, Rel K E W H ρ σ S ∧ ORes K E Xw W H (f ρ S) D
section
variable {g : G} {C : Call} {ev : Str → Value} {E : Ent} {N : List Str} {k n : Nat} {X : Cx} {sc : Scope} {Xw : Str → L2.St → Hp → Prop}
theorem no_badS {st : Stmt} {f : Ev → Sto → O} (h : ∀ ρ S, f ρ S = .bad) : PS X st (tS X.K E Xw f) := ⟨fun pins s σ H D I ⟨W, ρ, S, rel, q⟩ => by rw [h] at q; exact False.elim q⟩
theorem no_badSs {st : List Stmt} {f : Ev → Sto → O} (h : ∀ ρ S, f ρ S = .bad) : PSs X st (tS X.K E Xw f) := ⟨fun pins s σ H D I ⟨W, ρ, S, rel, q⟩ => by rw [h] at q; exact False.elim q⟩
theorem sS {f f' : Ev → Sto → O} (h : ∀ ρ S, f ρ S = f' ρ S) {st : Stmt} (q : PS X st (tS X.K E Xw f')) : PS X st (tS X.K E Xw f) := by
  have e : f = f' := by funext ρ S; exact h ρ S
  rw [e]; exact q
/-- ahead of a statement its lists are given away -/
theorem fr_S {f : Ev → Sto → O} {xs : List Str} {st : Stmt} (q : PS X st (tS X.K E Xw f)) : PS X st (tS X.K E Xw fun ρ S => f (freeze N xs ρ) S) :=
  q.wk fun D σ H ⟨W, ρ, S, rel, h⟩ => by
    obtain ⟨W', rel', p⟩ := rel.freeze (N := N) xs
    exact ⟨W', _, S, rel', h.pre p⟩
/-! ### blocks -/
theorem ds_nil : PSs X [] (tS X.K E Xw fun ρ S => .nx ρ S) := pss_nil.wk fun D σ H ⟨W, ρ, S, rel, h⟩ => h W H σ Pre.refl rel
theorem ds_cons {st : Stmt} {rest : List Stmt} {f fs : Ev → Sto → O} (h1 : PS X st (tS X.K E Xw f)) (h2 : PSs X rest (tS X.K E Xw fs)) : PSs X (st :: rest) (tS X.K E Xw fun ρ S => (f ρ S).seq fs) := by
  refine (pss_cons h1 h2).wk fun D σ H ⟨W, ρ, S, rel, h⟩ => ⟨W, ρ, S, rel, ?_⟩
  dsimp only at h
  cases z : f ρ S with
  | nx ρ' S' =>
    rw [z] at h
    exact fun W' H' σ' p r => ⟨W', ρ', S', r, ORes.pre p (show ORes X.K E Xw W H (fs ρ' S') D from h)⟩
  | brk ρ' S' => rw [z] at h; exact h
  | cnt ρ' S' => rw [z] at h; exact h
  | ret d S' => rw [z] at h; exact h
  | err c ρ' S' => rw [z] at h; exact h
  | bad => rw [z] at h; exact h
theorem ds_pass {pos : Pos} : PS X (.Pass pos) (tS X.K E Xw fun ρ S => .nx ρ S) := ps_pass.wk fun D σ H ⟨W, ρ, S, rel, h⟩ => h W H σ Pre.refl rel
theorem ds_break {pos : Pos} : PS X (.Break pos) (tS X.K E Xw fun ρ S => .brk ρ S) := ps_break.wk fun D σ H ⟨W, ρ, S, rel, h⟩ => h W H σ Pre.refl rel
theorem ds_cont {pos : Pos} : PS X (.Continue pos) (tS X.K E Xw fun ρ S => .cnt ρ S) := ps_continue.wk fun D σ H ⟨W, ρ, S, rel, h⟩ => h W H σ Pre.refl rel
/-! ### return, if, expressions, raise -/
theorem ds_ret0 {pos : Pos} : PS X (.Return none pos) (tS X.K E Xw fun ρ S => .ret .non S) := ps_retN.wk fun D σ H ⟨W, ρ, S, rel, h⟩ => h W H rel.le rel.ws _ .non
theorem ds_ret {e : Expr} {fe : Ev → Sto → R Lw.D} {pos : Pos} (he : PE X e (tE X.K E Xw fe)) : PS X (.Return (some e) pos) (tS X.K E Xw fun ρ S => (fe ρ S).run ρ fun d S1 => .ret d S1) :=
  (ps_ret he).wk fun D σ H ⟨W, ρ, S, rel, h⟩ => ⟨W, ρ, S, rel, (ORes.run rel h).mono fun d S1 W1 H1 l1 w1 p v rv => p W1 H1 (rel.le.trans l1) w1 v rv⟩
theorem ds_retBox {es : List Expr} {fs : Ev → Sto → R (List Lw.D)} {p pos : Pos} (ha : PA X es (tA X.K E Xw fs)) :
    PS X (.Return (some (.List es p)) pos) (tS X.K E Xw fun ρ S => (fs ρ S).run ρ fun ds S1 => if ds.length ≤ LINE then .ret (.ref S1.length) (S1 ++ [.lst ds]) else .bad) := by
  refine (ps_ret (pe_lst ha)).wk fun D σ H ⟨W, ρ, S, rel, h⟩ => ⟨W, ρ, S, rel, (ORes.run rel h).mono fun ds S1 W1 H1 l1 w1 p vs rv => ?_⟩
  split at p
  · rename_i hz
    have hz' : vs.length ≤ sizeLine := by rw [size_line, ← rv.length]; exact hz
    refine ⟨hz', fun t ht => ?_⟩
    have L := le_push (o := .lst vs) w1 ht
    have q := p (W1.push t) _ ((rel.le.trans l1).trans L) (ws_push w1 ht hz' rv)
    refine q _ ?_
    have e : (.ref t : V) = .ref ((W1.push t).μ S1.length) := by rw [w1.len, push_new]
    rw [e]
    exact .ref (by rw [w1.len]; exact Nat.lt_succ_self _)
  · exact False.elim p
theorem ds_if {c : Expr} {a b : List Stmt} {fc : Ev → Sto → R Bool} {fa fb : Ev → Sto → O} {pos : Pos} (hc : PT X c (tBl X.K E Xw fc)) (ha : PSs X a (tS X.K E Xw fa)) (hb : PSs X b (tS X.K E Xw fb)) :
    PS X (.If c a b pos) (tS X.K E Xw fun ρ S => (fc ρ S).run ρ fun t S1 => if t then fa ρ S1 else fb ρ S1) := by
  refine (ps_if hc ha hb).wk fun D σ H ⟨W, ρ, S, rel, h⟩ => ⟨W, ρ, S, rel, (ORes.run rel h).mono fun t S1 W1 H1 l1 w1 p => ?_⟩
  cases t with
  | true => exact iteT ⟨W1, ρ, S1, rel.step l1 w1, by rw [if_pos rfl] at p; exact p⟩
  | false => exact iteF ⟨W1, ρ, S1, rel.step l1 w1, by rw [if_neg Bool.false_ne_true] at p; exact p⟩
theorem sw_none {e : Expr} {l : Nat} {env : Env} (h : noComp e = true) (t : Option Expr) : swapsWith e t l env = pure false := by
  cases e <;> first | rfl | cases h
theorem ds_expr {e : Expr} {fe : Ev → Sto → R Lw.D} {pos : Pos} (hs : swapsWith e none pos.line X.env = pure false) (he : PE X e (tE X.K E Xw fe)) : PS X (.Expr e pos) (tS X.K E Xw fun ρ S => (fe ρ S).run ρ fun _ S1 => .nx ρ S1) :=
  (ps_expr he hs).wk fun D σ H ⟨W, ρ, S, rel, h⟩ => ⟨W, ρ, S, rel, (ORes.run rel h).mono fun d S1 W1 H1 l1 w1 p v rv => p W1 H1 σ Pre.refl (rel.step l1 w1)⟩
theorem ds_raise {x : Str} {p pos pos2 : Pos} (S : Sok X g C ev E N sc Xw k) (hx : g.exc x = true) (hg : glB sc x = true) (hpn : plainName x = true) : PS X (.Raise (some (.Call (.Name x p) [] [] pos)) none pos2) (tS X.K E Xw fun ρ S => .err x ρ S) := by
  obtain ⟨Ca, h1, h2, h3, h4, h5, h6⟩ := S.exc x hx
  refine (ps_raiseA S.c.calm S.c.tk h3 h1 h4 (raises_own h5 h6) (glOk hg S.c.hsc) (plain3 hpn).1).wk fun D σ H ⟨W, ρ, S0, rel, h⟩ => ?_
  exact ⟨x, h2.symm, rfl, h W H σ rel⟩
/-! ### stores -/
theorem slot_N {W : Wd} {H : Hp} {ρ : Ev} {S0 : Sto} {σ : L2.St} {pins : List (Addr × Obj)} {s : Shared} (c : Cok X g C ev E N sc Xw k) (I : Inv X pins σ H s) (r : Rel X.K E W H ρ σ S0) {i : Nat} (h : i < ρ.length) : i < N.length := by
  rw [← slot_len c I r]; exact h
/-- the target's place is known where the reading is -/
theorem ps_at {st : Stmt} {x : Str} {f : Ev → Sto → O} (S : Sok X g C ev E N sc Xw k) (hf : ∀ ρ S, ¬ ixOf N x < ρ.length → f ρ S = .bad) (q : ixOf N x < N.length → PS X st (tS X.K E Xw f)) : PS X st (tS X.K E Xw f) := by
  refine ⟨fun pins s σ H D I h => ?_⟩
  obtain ⟨W, ρ, S0, rel, h2⟩ := id h
  by_cases hi : ixOf N x < ρ.length
  · exact (q (slot_N S.c I rel hi)).run pins s σ H D I h
  · rw [hf ρ S0 hi] at h2; exact False.elim h2
theorem rho_len {W : Wd} {H : Hp} {ρ : Ev} {S0 : Sto} {σ : L2.St} {i : Nat} (r : Rel X.K E W H ρ σ S0) (h : i < ρ.length) : i < σ.length := by rw [← r.len]; exact h
theorem ds_own {x : Str} {es : List Expr} {fs : Ev → Sto → R (List Lw.D)} {p lp pos : Pos} (S : Sok X g C ev E N sc Xw k) (hl : locB sc x = true) (hn : ixOf N x < N.length) (ha : PA X es (tA X.K E Xw fs)) :
    PS X (.Assign [.Name x p] (.List es lp) pos) (tS X.K E Xw fun ρ S => if ixOf N x < ρ.length then (fs ρ S).run ρ fun ds S1 => if ds.length ≤ LINE then .nx (ρ.set (ixOf N x) (.own ds)) S1 else .bad else .bad) := by
  obtain ⟨h1, h2⟩ := S.tok.loc x hl
  refine (ps_set (i := ixOf N x) (by rw [S.c.hN]; exact S.c.nd) (by rw [S.c.hN]; exact ix_ok hn) h1 (pe_lst ha) rfl h2).wk fun D σ H ⟨W, ρ, S0, rel, h⟩ => ?_
  dsimp only at h
  split at h
  · rename_i hi
    refine ⟨W, ρ, S0, rel, (ORes.run rel h).mono fun ds S1 W1 H1 l1 w1 pp vs rv => ?_⟩
    split at pp
    · rename_i hz
      have hz' : vs.length ≤ sizeLine := by rw [size_line, ← rv.length]; exact hz
      refine ⟨hz', fun t ht => ?_⟩
      have L := le_new (K := X.K) w1 ht (.lst vs) W1 rfl rfl rfl (fun _ h => h) (fun _ h => .inl h)
      have rel1 := rel.step l1 w1
      have rel2 := rel1.step L (ws_new w1 ht (.lst vs) W1 rfl rfl rfl (fun _ h => h) (fun _ h => .inl h) (fun xs e => by cases e; exact hz') (fun xs e => by cases e) (fun _ _ e => by cases e))
      refine pp W1 _ _ (L.pre w1) (rel2.setOwn hi ⟨upd_same, rv.pre (L.pre w1), fun f => w1.fz t f ht, fun j hj z => w1.some hj (by rw [z]; exact ht)⟩ (rel1.le.gone ht) fun j es b _ hj hb z => ?_)
      obtain ⟨b', hb', us, hu, _⟩ := rel1.own j es hj
      rw [hb] at hb'
      cases hb'
      rw [z, ht] at hu
      cases hu
    · exact False.elim pp
  · exact False.elim h
/-- the red of a plain store -/
theorem asg_red {fe : Ev → Sto → R Lw.D} {D : Ends} {σ : L2.St} {H : Hp} {i : Nat} (h : tS X.K E Xw (fun ρ S => if i < ρ.length then (fe ρ S).run ρ fun d S1 => .nx (ρ.set i (.val d)) S1 else .bad) D σ H) :
    tAsg (tE X.K E Xw fe) (gName i) D σ H := by
  obtain ⟨W, ρ, S0, rel, h⟩ := h
  dsimp only at h
  split at h
  · rename_i hi
    exact ⟨W, ρ, S0, rel, (ORes.run rel h).mono fun d S1 W1 H1 l1 w1 p v rv => p W1 H1 _ Pre.refl ((rel.step l1 w1).set hi rv)⟩
  · exact False.elim h
theorem den_setLc {i : Nat} {y : Str} {py : Pos} {elt tg iter : Expr} {ifs : List Expr} {scope : Scope} {pos spos : Pos} {fi : Ev → Sto → R (List Lw.D)} {ftg : Lw.D → Ev → Option Ev} {fc : Ev → Sto → R Bool} {fe : Ev → Sto → R Lw.D} {own : List (Str × Nat)} {ix : List Nat}
    (c : Cok X g C ev E N sc Xw k) (hN : X.N.Nodup) (hy : X.N[i]? = some y) (hyl : X.env.scope.names.lookup y = some .local)
    (hsw : swapsWith (.ListComp elt [⟨tg, iter, ifs, 0⟩] scope pos) (some (.Name y py)) spos.line X.env = pure true) (hi : PI X tg iter (tI X.K E Xw fi)) (ok : blkC N sc scope own = true) (hix : ∀ i ∈ ix, i ∈ own.map (·.2))
    (hg : ∀ s H C cl fp xe, PG (blkX X s H scope (compEnvC scope cl C X.env) fp xe) tg (tG X.K E ftg ix))
    (ht : ∀ s H C cl fp xe, PTs (blkX X s H scope (compEnvC scope cl C X.env) fp xe) ifs (tBl X.K E (fun _ _ _ => False) fc))
    (he : ∀ s H C cl fp xe Xe, TakesA (blkX X s H scope (compEnvC scope cl C X.env) fp xe) (wxOf ev Xe) → PE (blkX X s H scope (compEnvC scope cl C X.env) fp xe) elt (tE X.K E Xe fe))
    (hs : ∀ x, foldedSetIterable iter X.env x = pure x) :
    PS X (.Assign [.Name y py] (.ListComp elt [⟨tg, iter, ifs, 0⟩] scope pos) spos) (tS X.K E Xw fun ρ S => if i < ρ.length then ((fi ρ S).bind fun ds S1 => if ds.length ≤ LINE then
            (compL (fun d S2 => lcStep fc fe S2 (ftg d (wipeE ρ (own.map (·.2))))) ds [] S1).bind fun ys S5 => .ok (.lst ys) S5 else .bad).run ρ fun d S1 => .nx (ρ.set i (.val d)) S1 else .bad) := by
  obtain ⟨E0, O, L, q1, q2, q3⟩ := c.stk
  refine (ps_setLcX (tX := fun W' => tE X.K E (fun cc σ3 H' => W' (ev cc) none σ3 H') fe) q1 q2 q3 c.tk c.calm hN hy hyl hsw hi (own := own) (by rw [c.hN, c.hsc]; exact blkOk_by ok) hg ht (fun s H C cl fp xe W' tk => he s H C cl fp xe _ (tk.imp fun cls σ H' z => ?_)) hs).wk
    fun D σ H h => lc_red hix (fun cc σ2 H' z => ⟨cc, rfl, rfl, z⟩) (asg_red h)
  obtain ⟨cc, e, _, z⟩ := z
  rw [e]
  exact z
theorem isLoc_iff {env : Env} {x : Str} (hsc : env.scope = sc) : (env.kindOf x == some .local) = isLocB sc x := by
  unfold Env.kindOf isLocB kindB
  rw [hsc]
  cases sc.names.lookup x with
  | none => rfl
  | some y => cases y <;> rfl
theorem ds_val {x : Str} {e : Expr} {p pos : Pos} (S : Sok X g C ev E N sc Xw k) (hl : locB sc x = true) (hn : ixOf N x < N.length) (hps : plainSet sc x e = true) :
    PS X (.Assign [.Name x p] e pos) (tS X.K E Xw fun ρ S => if ixOf N x < ρ.length then (evE g C N n sc e ρ S).run ρ fun d S1 => .nx (ρ.set (ixOf N x) (.val d)) S1 else .bad) := by
  obtain ⟨h1, h2⟩ := S.tok.loc x hl
  have nd : X.N.Nodup := by rw [S.c.hN]; exact S.c.nd
  have ix : X.N[ixOf N x]? = some x := by rw [S.c.hN]; exact ix_ok hn
  have plainly : swapsWith e (some (.Name x p)) pos.line X.env = pure false → PS X (.Assign [.Name x p] e pos) (tS X.K E Xw fun ρ S => if ixOf N x < ρ.length then (evE g C N n sc e ρ S).run ρ fun d S1 => .nx (ρ.set (ixOf N x) (.val d)) S1 else .bad) := fun hs =>
    (ps_set nd ix h1 ((snd_n g C ev E N k n).e S.c e) hs h2).wk fun D σ H h => asg_red h
  by_cases hc : ∃ elt cs scope lp, e = .ListComp elt cs scope lp
  · obtain ⟨elt, cs, scope, lp, rfl⟩ := hc
    have hsw : swapsWith (.ListComp elt cs scope lp) (some (.Name x p)) pos.line X.env = pure (X.env.blockKind == .function && X.env.kindOf x == some .local && p.line == lp.line && !(scope.names.any fun (n, k) => n == x && (k == .local || k == .cell))) := rfl
    cases hb : (X.env.blockKind == .function && X.env.kindOf x == some .local && p.line == lp.line && !(scope.names.any fun (n, k) => n == x && (k == .local || k == .cell))) with
    | false => exact plainly (by rw [hsw, hb])
    | true =>
      rw [hb] at hsw
      have hloc : X.env.scope.names.lookup x = some .local := by
        simp only [Bool.and_eq_true, beq_iff_eq] at hb
        exact hb.1.1.2
      have bad : (∀ ρ S, evE g C N n sc (.ListComp elt cs scope lp) ρ S = .bad) → PS X (.Assign [.Name x p] (.ListComp elt cs scope lp) pos) (tS X.K E Xw fun ρ S => if ixOf N x < ρ.length then (evE g C N n sc (.ListComp elt cs scope lp) ρ S).run ρ fun d S1 => .nx (ρ.set (ixOf N x) (.val d)) S1 else .bad) := fun hb => no_badS fun ρ S => by
        rw [hb]
        split <;> rfl
      cases n with
      | zero => exact bad fun _ _ => rfl
      | succ m =>
        match cs with
        | [] => exact bad fun ρ S => by simp only [evE]
        | _ :: _ :: _ =>
          exfalso
          have q : (!(isLocB sc x)) = true := hps
          have q2 : isLocB sc x = true := by
            simp only [Bool.and_eq_true] at hb
            rw [← isLoc_iff S.c.hsc]
            exact hb.1.1.2
          rw [q2] at q
          cases q
        | [⟨tg, it, ifs, as⟩] =>
          by_cases h0 : as = 0
          · subst h0
            by_cases hcc : (blkC N sc scope (ownOf N scope) && (tgtIx N m tg).all (fun i => decide (i ∈ (ownOf N scope).map (·.2))) && notSet it) = true
            · have h3 := hcc
              simp only [Bool.and_eq_true] at hcc
              obtain ⟨⟨hbb, hx⟩, hse⟩ := hcc
              have ih := snd_n g C ev E N k m
              have hix : ∀ i ∈ tgtIx N m tg, i ∈ (ownOf N scope).map (·.2) := fun i hi => of_decide_eq_true (List.all_eq_true.mp hx i hi)
              refine sS ?_ (den_setLc S.c nd ix hloc hsw (ih.it S.c tg it) hbb hix (fun s H C' cl fp xe => (tgt_ok (blk_tokX S.c s H scope C' cl fp xe) m).1 tg)
                (fun s H C' cl fp xe => ih.ifs (S.c.blkX s H scope C' cl fp xe noTk) ifs) (fun s H C' cl fp xe Xe tk => ih.e (S.c.blkX s H scope C' cl fp xe tk) elt) (fold_ok hse))
              intro ρ S
              simp only [evE, h3, if_true]
            · exact bad fun ρ S => by simp only [evE, hcc]; rfl
          · refine bad fun ρ S => ?_
            unfold evE
            dsimp only
            split
            · rename_i z
              injection z with z1 _
              injection z1 with _ _ _ z4
              exact absurd z4 h0
            · rename_i z
              simp at z
            · rfl
  · by_cases hdc : ∃ kx vx cs scope lp, e = .DictComp kx vx cs scope lp
    · obtain ⟨kx, vx, cs, scope, lp, rfl⟩ := hdc
      refine plainly ?_
      have q : (!(isLocB sc x)) = true := hps
      have hsw : swapsWith (.DictComp kx vx cs scope lp) (some (.Name x p)) pos.line X.env = pure (X.env.blockKind == .function && X.env.kindOf x == some .local && p.line == lp.line && !(scope.names.any fun (n, k) => n == x && (k == .local || k == .cell))) := rfl
      rw [hsw]
      have e0 : (X.env.kindOf x == some .local) = false := by
        rw [isLoc_iff S.c.hsc]
        simpa using q
      rw [e0, Bool.and_false, Bool.false_and, Bool.false_and]
    by_cases hs : noComp e = true
    · exact plainly (sw_none hs _)
    · refine no_badS fun ρ S => ?_
      have eb : evE g C N n sc e ρ S = .bad := by
        cases e <;> first | (cases n <;> rfl) | exact absurd ⟨_, _, _, _, rfl⟩ hc | exact absurd ⟨_, _, _, _, _, rfl⟩ hdc | exact absurd rfl hs
      rw [eb]
      split <;> rfl
theorem ds_tup {tg : List Expr} {e : Expr} {kk : Nat} {p pos : Pos} (S : Sok X g C ev E N sc Xw k) (hw : swappedStores [.Tuple tg kk p] e X.env = pure none) :
    PS X (.Assign [.Tuple tg kk p] e pos) (tS X.K E Xw fun ρ S => (evE g C N n sc e ρ S).run ρ fun d S1 => (match asgT N sc n (.Tuple tg kk p) d ρ with
          | some ρ1 => .nx ρ1 S1
          | none => .bad)) := by
  have hs : swapsWithSole [.Tuple tg kk p] e pos.line X.env = pure false := by
    show swapsWith e (some (.Tuple tg kk p)) pos.line X.env = pure false
    cases e <;> rfl
  refine (ps_asg ((snd_n g C ev E N k n).e S.c e) ((tgt_ok (E := E) S.tok n).1 (.Tuple tg kk p)) hs hw rfl).wk fun D σ H ⟨W, ρ, S0, rel, h⟩ => ⟨W, ρ, S0, rel, (ORes.run rel h).mono fun d S1 W1 H1 l1 w1 pp v rv => ?_⟩
  cases z : asgT N sc n (.Tuple tg kk p) d ρ with
  | none => rw [z] at pp; exact False.elim pp
  | some ρ1 =>
    rw [z] at pp
    exact ⟨W1, ρ, S1, d, ρ1, rel.step l1 w1, rv, z, fun σ' rel' _ _ => pp W1 H1 σ' Pre.refl rel'⟩
theorem ds_par {x y : Str} {a b : Expr} {fs : Ev → Sto → R (List Lw.D)} {px py pt pt2 pos : Pos} {kt k2 : Nat} (S : Sok X g C ev E N sc Xw k) (hx : isLocB sc x = true) (hy : isLocB sc y = true) (hxy : (x == y) = false) (hnx : ixOf N x < N.length) (hny : ixOf N y < N.length)
    (hw : swappedStores [.Tuple [.Name x px, .Name y py] kt pt] (.Tuple [a, b] k2 pt2) X.env = pure (some [x, y])) (ha : PA X [a, b] (tA X.K E Xw fs)) :
    PS X (.Assign [.Tuple [.Name x px, .Name y py] kt pt] (.Tuple [a, b] k2 pt2) pos) (tS X.K E Xw fun ρ S => if decide (ixOf N x < ρ.length) && decide (ixOf N y < ρ.length) then (fs ρ S).run ρ fun ds S1 => (match ds with
              | [d1, d2] => .nx ((ρ.set (ixOf N x) (.val d1)).set (ixOf N y) (.val d2)) S1
              | _ => .bad) else .bad) := by
  have lx : X.env.scope.names.lookup x = some .local := by
    rw [S.c.hsc]; unfold isLocB kindB at hx; split at hx <;> first | assumption | cases hx
  have ly : X.env.scope.names.lookup y = some .local := by
    rw [S.c.hsc]; unfold isLocB kindB at hy; split at hy <;> first | assumption | cases hy
  have ij : ixOf N x ≠ ixOf N y := fun z => by
    have q1 := ix_ok hnx
    rw [z, ix_ok hny] at q1
    have := Option.some.inj q1
    rw [this] at hxy
    simp at hxy
  refine (ps_par (i := ixOf N x) (j := ixOf N y) S.c.calm (by rw [S.c.hN]; exact S.c.nd) (by rw [S.c.hN]; exact ix_ok hnx) (by rw [S.c.hN]; exact ix_ok hny) ij lx ly ha hw rfl).wk fun D σ H ⟨W, ρ, S0, rel, h⟩ => ?_
  dsimp only at h
  split at h
  · rename_i hi
    obtain ⟨h1, h2⟩ := Bool.and_eq_true_iff.mp hi
    refine ⟨W, ρ, S0, rel, (ORes.run rel h).mono fun ds S1 W1 H1 l1 w1 pp vs rv => ?_⟩
    cases rv with
    | nil => exact False.elim pp
    | @cons d ds v vs r rs =>
      cases rs with
      | nil => exact False.elim pp
      | @cons d2 ds v2 vs r2 rs =>
        cases rs with
        | cons _ _ => exact False.elim pp
        | nil => exact ⟨v, v2, rfl, pp W1 H1 _ Pre.refl (((rel.step l1 w1).set (of_decide_eq_true h1) r).set (by rw [List.length_set]; exact of_decide_eq_true h2) r2)⟩
  · exact False.elim h
theorem ds_par3 {x y z : Str} {a b c : Expr} {fs : Ev → Sto → R (List Lw.D)} {px py pz pt pt2 pos : Pos} {kt k2 : Nat} (S : Sok X g C ev E N sc Xw k) (hx : isLocB sc x = true) (hy : isLocB sc y = true) (hz : isLocB sc z = true) (hxy : (x == y) = false) (hxz : (x == z) = false) (hyz : (y == z) = false) (hnx : ixOf N x < N.length) (hny : ixOf N y < N.length) (hnz : ixOf N z < N.length)
    (hw : swappedStores [.Tuple [.Name x px, .Name y py, .Name z pz] kt pt] (.Tuple [a, b, c] k2 pt2) X.env = pure (some [x, y, z])) (ha : PA X [a, b, c] (tA X.K E Xw fs)) :
    PS X (.Assign [.Tuple [.Name x px, .Name y py, .Name z pz] kt pt] (.Tuple [a, b, c] k2 pt2) pos) (tS X.K E Xw fun ρ S => if decide (ixOf N x < ρ.length) && decide (ixOf N y < ρ.length) && decide (ixOf N z < ρ.length) then (fs ρ S).run ρ fun ds S1 => (match ds with
              | [d1, d2, d3] => .nx (((ρ.set (ixOf N x) (.val d1)).set (ixOf N y) (.val d2)).set (ixOf N z) (.val d3)) S1
              | _ => .bad) else .bad) := by
  have lk : ∀ {x : Str}, isLocB sc x = true → X.env.scope.names.lookup x = some .local := fun {x} hx => by
    rw [S.c.hsc]; unfold isLocB kindB at hx; split at hx <;> first | assumption | cases hx
  have ne : ∀ {x y : Str}, ixOf N x < N.length → ixOf N y < N.length → (x == y) = false → ixOf N x ≠ ixOf N y := fun {x y} hnx hny hxy z => by
    have q1 := ix_ok hnx
    rw [z, ix_ok hny] at q1
    have := Option.some.inj q1
    rw [this] at hxy
    simp at hxy
  refine (ps_par3 (i := ixOf N x) (j := ixOf N y) (l := ixOf N z) S.c.calm (by rw [S.c.hN]; exact S.c.nd) (by rw [S.c.hN]; exact ix_ok hnx) (by rw [S.c.hN]; exact ix_ok hny) (by rw [S.c.hN]; exact ix_ok hnz) (ne hnx hny hxy) (ne hnx hnz hxz) (ne hny hnz hyz) (lk hx) (lk hy) (lk hz) ha hw rfl).wk fun D σ H ⟨W, ρ, S0, rel, h⟩ => ?_
  dsimp only at h
  split at h
  · rename_i hi
    obtain ⟨h12, h3⟩ := Bool.and_eq_true_iff.mp hi
    obtain ⟨h1, h2⟩ := Bool.and_eq_true_iff.mp h12
    refine ⟨W, ρ, S0, rel, (ORes.run rel h).mono fun ds S1 W1 H1 l1 w1 pp vs rv => ?_⟩
    cases rv with
    | nil => exact False.elim pp
    | @cons d ds v vs r rs =>
      cases rs with
      | nil => exact False.elim pp
      | @cons d2 ds v2 vs r2 rs =>
        cases rs with
        | nil => exact False.elim pp
        | @cons d3 ds v3 vs r3 rs =>
          cases rs with
          | cons _ _ => exact False.elim pp
          | nil => exact ⟨v, v2, v3, rfl, pp W1 H1 _ Pre.refl ((((rel.step l1 w1).set (of_decide_eq_true h1) r).set (by rw [List.length_set]; exact of_decide_eq_true h2) r2).set (by rw [List.length_set, List.length_set]; exact of_decide_eq_true h3) r3)⟩
  · exact False.elim h
theorem ixN_lt {n : Nat} {i : Int} {j : Nat} (h : ixN n i = some j) : j < n := (ixN_seq h).2.1
theorem ds_sub {o i e : Expr} {fe fo fi : Ev → Sto → R Lw.D} {p pos : Pos} (S : Sok X g C ev E N sc Xw k) (hi : notSlice i = true) (he : PE X e (tE X.K E Xw fe)) (ho : PE X o (tE X.K E Xw fo)) (hx : PE X i (tE X.K E Xw fi)) :
    PS X (.Assign [.Subscript o i p] e pos) (tS X.K E Xw fun ρ S => (fe ρ S).run ρ fun v S1 => (fo ρ S1).run ρ fun x S2 => (fi ρ S2).run ρ fun j S3 => (match x with
            | .ref a => (match storeX a j v S3 with
              | some S4 => .nx ρ S4
              | none => .bad)
            | _ => .bad)) := by
  have hs : swapsWithSole [.Subscript o i p] e pos.line X.env = pure false := by
    show swapsWith e (some (.Subscript o i p)) pos.line X.env = pure false
    cases e <;> rfl
  have hw : swappedStores [.Subscript o i p] e X.env = pure none := by cases e <;> rfl
  refine (ps_asg he (pg_sub ho hx (set_X S.c.hu) (by intro v; cases i <;> first | rfl | cases hi)) hs hw rfl).wk fun D σ H ⟨W, ρ, S0, rel, h⟩ => ⟨W, ρ, S0, rel, (ORes.run rel h).mono fun d S1 W1 H1 l1 w1 pp v rv => ?_⟩
  have rel1 := rel.step l1 w1
  refine ⟨W1, ρ, S1, rel1, (ORes.run rel1 pp).mono fun x S2 W2 H2 l2 w2 p2 xv rx => ?_⟩
  have rel2 := rel1.step l2 w2
  refine ⟨W2, ρ, S2, rel2, (ORes.run rel2 p2).mono fun j S3 W3 H3 l3 w3 p3 jv rj => ?_⟩
  have rel3 := rel2.step l3 w3
  have rx3 := rx.pre (l3.pre w2)
  have rv3 := (rv.pre (l2.pre w1)).pre (l3.pre w2)
  cases rx3 with
  | @ref a ha =>
    dsimp only at p3
    obtain ⟨om, hom, hm⟩ := w3.there ha
    cases om with
    | lst ds =>
      obtain ⟨vs, hv, rvs⟩ := hm
      cases rj with
      | int jj =>
        have p4 : ORes X.K E Xw W3 H3 (match (ixN ds.length jj).map (fun k => S3.set a (.lst (ds.set k d))) with
              | some S4 => .nx ρ S4
              | none => .bad) D := by
          have e0 : storeX a (.int jj) d S3 = (ixN ds.length jj).map (fun k => S3.set a (.lst (ds.set k d))) := by unfold storeX storeD; rw [hom]
          rw [← e0]; exact p3
        cases hk : ixN ds.length jj with
        | none => rw [hk] at p4; exact False.elim p4
        | some kk =>
          rw [hk] at p4
          have hk2 : ixN vs.length jj = some kk := by rw [← rvs.length]; exact hk
          refine .inl ⟨_, vs, jj, kk, rfl, rfl, hv, hk2, ?_⟩
          have lz : (vs.set kk v).length ≤ sizeLine := by rw [List.length_set]; exact w3.wf _ _ (.inl hv)
          exact p4 W3 _ σ (sto_preM w3 ha) (rel3.writeSto ha lz (Reps.set kk rv3 rvs))
      | _ => simp only [storeX, hom] at p3; exact False.elim p3
    | dic kvs =>
      have e0 : storeX a j d S3 = (keyD j).bind fun k => if kvs.length < LINE then some (S3.set a (.dic (putKV kvs k j d))) else none := by unfold storeX; rw [hom]
      rw [e0] at p3
      cases hk : keyD j with
      | none => rw [hk] at p3; exact False.elim p3
      | some kk =>
        rw [hk] at p3
        obtain ⟨⟨ds, rfl⟩, _, _⟩ := keyD_some hk
        by_cases hl : kvs.length < LINE
        · have p3 : ORes X.K E Xw W3 H3 (match (if kvs.length < LINE then some (S3.set a (.dic (putKV kvs kk (.tup ds) d))) else none) with
              | some S4 => .nx ρ S4
              | none => .bad) D := p3
          rw [if_pos hl] at p3
          cases rj with
          | @tup b _ _ g r =>
            exact .inr ⟨W3, _, kvs, .tup ds, d, kk, b, rfl, rfl, rel3.w S.c.ew, hm, hk, .tup g r, rv3, hl, fun ob => sto_preM w3 ha, fun ob m2 => p3 W3 _ σ (sto_preM w3 ha) (rel3.writeM ha m2 (fun _ e => by cases e) (fun _ e => by cases e) (fun _ _ e => by cases e))⟩
        · have p3 : ORes X.K E Xw W3 H3 (match (if kvs.length < LINE then some (S3.set a (.dic (putKV kvs kk (.tup ds) d))) else none) with
              | some S4 => .nx ρ S4
              | none => .bad) D := p3
          rw [if_neg hl] at p3
          exact False.elim p3
    | ins cn fs =>
      have e0 : storeX a j d S3 = none := by unfold storeX; rw [hom]
      rw [e0] at p3
      exact False.elim p3
  | _ => exact False.elim p3
/-- while: the lists that its test names are given away ahead of it -/
theorem ds_while {c : Expr} {body : List Stmt} {fc : Ev → Sto → R Bool} {fb : Ev → Sto → O} {xs : List Str} {pos : Pos} (n : Nat) (S : Sok X g C ev E N sc Xw k) (hc : PT X c (tBl X.K E Xw fc)) (hb : PSs X body (tS X.K E Xw fb)) :
    PS X (.While c body [] pos) (tS X.K E Xw fun ρ S => whileL fc (fun ρ1 S1 => match fb ρ1 S1 with
          | .nx ρ2 S2 => .nx (freeze N xs ρ2) S2
          | .cnt ρ2 S2 => .cnt (freeze N xs ρ2) S2
          | o => o) n ρ S) := by
  refine (ps_while S.hp hc hb).wk fun D σ H ⟨W, ρ, S0, rel, h⟩ => ⟨fun m σ H => ∃ W ρ S0, Rel X.K E W H ρ σ S0 ∧ ORes X.K E Xw W H (whileL fc (fun ρ1 S1 => match fb ρ1 S1 with
          | .nx ρ2 S2 => .nx (freeze N xs ρ2) S2
          | .cnt ρ2 S2 => .cnt (freeze N xs ρ2) S2
          | o => o) m ρ S0) D, ⟨n, W, ρ, S0, rel, h⟩, fun m σ H ⟨W, ρ, S0, rel, h⟩ => ?_⟩
  cases m with
  | zero => exact False.elim h
  | succ m =>
    refine ⟨W, ρ, S0, rel, (ORes.run rel h).mono fun b S1 W1 H1 l1 w1 p => ?_⟩
    have rel1 := rel.step l1 w1
    cases b with
    | false => exact p W1 H1 σ Pre.refl rel1
    | true =>
      dsimp only
      rw [if_pos rfl]
      rw [if_pos rfl] at p
      refine ⟨fun σ' H' => ∃ W ρ S0, Rel X.K E W H' ρ σ' S0 ∧ ORes X.K E Xw W H' (whileL fc (fun ρ1 S1 => match fb ρ1 S1 with
          | .nx ρ2 S2 => .nx (freeze N xs ρ2) S2
          | .cnt ρ2 S2 => .cnt (freeze N xs ρ2) S2
          | o => o) m ρ S0) D, fun σ' H' q => ⟨m, Nat.lt_succ_self _, q⟩, W1, ρ, S1, rel1, ?_⟩
      dsimp only at p
      cases z : fb ρ S1 with
      | nx ρ2 S2 =>
        rw [z] at p
        intro W' H' σ' pp rr
        obtain ⟨W2, rel2, p2⟩ := rr.freeze (N := N) xs
        exact ⟨W2, _, _, rel2, ORes.pre (pp.trans p2) p⟩
      | cnt ρ2 S2 =>
        rw [z] at p
        intro W' H' σ' pp rr
        obtain ⟨W2, rel2, p2⟩ := rr.freeze (N := N) xs
        exact ⟨W2, _, _, rel2, ORes.pre (pp.trans p2) p⟩
      | brk ρ2 S2 => rw [z] at p; exact p
      | ret d S2 => rw [z] at p; exact p
      | err cc ρ2 S2 => rw [z] at p; exact p
      | bad => rw [z] at p; exact p
def rAug (op : Operator) : TIp := fun x y H Q => ∃ (K : PySem.W.Frag) (W : Wd) (a b d : Lw.D), Rep K W H a x ∧ Rep K W H b y ∧ augD op a b = some d ∧ ∀ v, (∀ W2 H2, Rep K W2 H2 d v) → Q v H
theorem ip_aug (op : Operator) : PIp X op (rAug op) := by
  intro pins s σ H x y v u Q I r1 r2 h
  obtain ⟨K, W, a, b, d, ra, rb, e, f⟩ := h
  unfold augD at e
  split at e
  · cases ra; cases rb; cases e
    exact ip_add pins s σ H _ _ v u Q I r1 r2 ⟨_, _, rfl, rfl, f _ fun _ _ => .int _⟩
  · cases ra; cases rb; cases e
    exact ip_sub pins s σ H _ _ v u Q I r1 r2 ⟨_, _, rfl, rfl, f _ fun _ _ => .int _⟩
  · cases ra; cases rb
    split at e
    · rename_i hz
      cases e
      exact iop_add_str pins s σ H _ _ v u Q I r1 r2 ⟨_, _, rfl, rfl, by rw [size_line]; exact hz, f _ fun _ _ => .str _⟩
    · cases e
  · cases e
theorem ds_aug {x : Str} {e : Expr} {fe : Ev → Sto → R Lw.D} {op : Operator} {p pos : Pos} (S : Sok X g C ev E N sc Xw k) (hl : locB sc x = true) (hn : ixOf N x < N.length) (he : PE X e (tE X.K E Xw fe)) :
    PS X (.AugAssign (.Name x p) op e pos) (tS X.K E Xw fun ρ S => if ixOf N x < ρ.length then (match getSl ρ (ixOf N x) with
          | .val d0 => (fe ρ S).run ρ fun d S1 => (match augD op d0 d with
            | some d2 => .nx (ρ.set (ixOf N x) (.val d2)) S1
            | none => .bad)
          | _ => .bad) else .bad) := by
  obtain ⟨h1, h2⟩ := S.tok.loc x hl
  refine (ps_aug (by rw [S.c.hN]; exact S.c.nd) (by rw [S.c.hN]; exact ix_ok hn) h1 he (ip_aug op) h2).wk fun D σ H ⟨W, ρ, S0, rel, h⟩ => ?_
  dsimp only at h
  split at h
  · rename_i hi
    split at h
    · rename_i d0 hd
      obtain ⟨v0, hv, r0⟩ := rel.val _ _ hd
      refine ⟨v0, hv, W, ρ, S0, rel, (ORes.run rel h).mono fun d S1 W1 H1 l1 w1 pp v rv => ?_⟩
      cases z : augD op d0 d with
      | none => rw [z] at pp; exact False.elim pp
      | some d2 =>
        rw [z] at pp
        exact ⟨X.K, W1, d0, d, d2, r0.pre (l1.pre rel.ws), rv, z, fun v2 r2 => pp W1 H1 _ Pre.refl ((rel.step l1 w1).set hi (r2 _ _))⟩
    · exact False.elim h
  · exact False.elim h
theorem lstAt_some {x : Lw.D} {S : Sto} {i : Nat} (h : lstAt x S = some i) : x = .ref i ∧ ∃ ds, S[i]? = some (.lst ds) := by
  unfold lstAt at h
  split at h
  · split at h
    · rename_i e
      cases h
      exact ⟨rfl, _, e⟩
    · cases h
  · cases h
theorem ws_lst {K : PySem.W.Frag} {W : Wd} {H : Hp} {S : Sto} {i : Nat} {ds : List Lw.D} (w : WS K W H S) (e : S[i]? = some (.lst ds)) : i < W.n ∧ ∃ vs, H (W.μ i) = some (.lst vs) ∧ Reps K W H ds vs :=
  ⟨by rw [← w.len]; exact (List.getElem?_eq_some_iff.mp e).1, w.ob i _ e⟩
/-- the list of the store grows: behind the argument -/
theorem app_fin {i : Nat} {d : Lw.D} {v : V} {W : Wd} {H : Hp} {ρ : Ev} {σ : L2.St} {S2 : Sto} {D : Ends} {a : Addr} (rel : Rel X.K E W H ρ σ S2) (ha : i < W.n) (ea : W.μ i = a) (rv : Rep X.K W H d v) (h : ORes X.K E Xw W H (appR i d ρ S2) D) :
    rAppend (.ref a) [v] H fun _ H' => D.nx σ H' := by
  unfold appR at h
  obtain ⟨o, e, m⟩ := rel.ws.there ha
  rw [e] at h
  cases o with
  | dic kvs => exact False.elim h
  | ins cn fs => exact False.elim h
  | lst ds =>
    obtain ⟨vs, hv, rs⟩ := m
    dsimp only at h
    split at h
    · rename_i hz
      have lz : vs.length < sizeLine := by rw [size_line, ← rs.length]; exact hz
      rw [ea] at hv
      refine ⟨a, vs, v, rfl, rfl, hv, lz, ?_⟩
      rw [← ea]
      exact h W _ σ (sto_preM rel.ws ha) (rel.writeSto ha (by rw [List.length_append]; exact lz) (rs.append (Reps.one rv)))
    · exact False.elim h
/-- x.append(e) -/
theorem ds_app {x : Str} {a : Expr} {fe : Ev → Sto → R Lw.D} {p ap cp pos : Pos} (S : Sok X g C ev E N sc Xw k) (hl : locB sc x = true) (hpn : plainName x = true) (hn : ixOf N x < N.length) (hline : (ap.endLine == cp.line) = true) (hs : notStar a = true) (he : PE X a (tE X.K E Xw fe)) :
    PS X (.Expr (.Call (.Attribute (.Name x p) "append" ap) [a] [] cp) pos) (tS X.K E Xw fun ρ S => (match getSl ρ (ixOf N x) with
            | .own ds => (fe ρ S).run ρ fun d S1 => if ds.length < LINE then .nx (ρ.set (ixOf N x) (.own (ds ++ [d]))) S1 else .bad
            | .val x => (match lstAt x S with
              | some i => (fe ρ S).run ρ fun d S1 => appR i d ρ S1
              | none => .bad)
            | _ => .bad)) := by
  obtain ⟨n1, n2, _⟩ := plain3 hpn
  obtain ⟨h1, h2⟩ := S.tok.loc x hl
  have hv : Vis X.env.scope x := by rcases h1 with q | q; exact .inl q; exact .inr (.inl q)
  have hst : starEach [a] X.env = (false, eval a X.env) :: starEach [] X.env := star_ok hs
  have hpe : PE X (.Call (.Attribute (.Name x p) "append" ap) [a] [] cp) (tBM X.K "list" rAppend (tVar (ixOf N x)) (tCons (tE X.K E Xw fe) tNil)) :=
    pe_bm PySem.F.plainAttrs_list PySem.F.slot_list_append PySem.F.type_list_append mt_append (pe_var (by rw [S.c.hN]; exact ix_ok hn) hv n1 n2) (pa_cons he pa_nil hst) rfl (by rw [hst] <;> rfl) hline hst rfl
  refine (ps_expr hpe rfl).wk fun D σ H ⟨W, ρ, S0, rel, h⟩ => ?_
  dsimp only at h
  cases hd : getSl ρ (ixOf N x) with
  | un => rw [hd] at h; exact False.elim h
  | own ds =>
    rw [hd] at h
    dsimp only at h
    obtain ⟨t, ht, hown⟩ := rel.own _ _ hd
    obtain ⟨vs, hh, hE⟩ := hown.held
    refine ⟨.ref t, ht, .inl ⟨rfl, vs, SqL.of hh.at_⟩, W, ρ, S0, rel, (ORes.run rel h).mono fun d S1 W1 H1 l1 w1 pp v rv => ?_⟩
    split at pp
    · rename_i hz
      have rel1 := rel.step l1 w1
      have hh1 := hh.le rel.ws l1
      have lz : vs.length < sizeLine := by rw [size_line, ← hh1.reps.length]; exact hz
      refine ⟨t, vs, v, rfl, rfl, hh1.at_, lz, ?_⟩
      exact pp W1 _ σ (own_pre hh1) (rel1.writeOwn hd ht hh1 hE (by rw [List.length_append]; exact lz) (hh1.reps.append (Reps.one rv)))
    · exact False.elim pp
  | val xd =>
    rw [hd] at h
    dsimp only at h
    cases hx : lstAt xd S0 with
    | none => rw [hx] at h; exact False.elim h
    | some i =>
      rw [hx] at h
      obtain ⟨rfl, ds, e⟩ := lstAt_some hx
      obtain ⟨hi, vs, hv, rs⟩ := ws_lst rel.ws e
      obtain ⟨u, hu, ru⟩ := rel.val _ _ hd
      cases ru
      refine ⟨.ref (W.μ i), hu, .inl ⟨rfl, vs, SqL.of hv⟩, W, ρ, S0, rel, (ORes.run rel h).mono fun d S1 W1 H1 l1 w1 pp v rv => ?_⟩
      exact app_fin (rel.step l1 w1) (Nat.lt_of_lt_of_le hi l1.n) (l1.mu i hi) rv pp
/-- o.append(e) -/
theorem ds_appS {oo a : Expr} {fo fe : Ev → Sto → R Lw.D} {ap cp pos : Pos} (S : Sok X g C ev E N sc Xw k) (hb : baseB oo = true) (hline : (ap.endLine == cp.line) = true) (hs : notStar a = true) (ho : PE X oo (tE X.K E Xw fo)) (he : PE X a (tE X.K E Xw fe)) :
    PS X (.Expr (.Call (.Attribute oo "append" ap) [a] [] cp) pos) (tS X.K E Xw fun ρ S => (fo ρ S).run ρ fun x S1 => (match lstAt x S1 with
            | some i => (fe ρ S1).run ρ fun d S2 => appR i d ρ S2
            | none => .bad)) := by
  have hst : starEach [a] X.env = (false, eval a X.env) :: starEach [] X.env := star_ok hs
  have hpe : PE X (.Call (.Attribute oo "append" ap) [a] [] cp) (tBM X.K "list" rAppend (tE X.K E Xw fo) (tCons (tE X.K E Xw fe) tNil)) :=
    pe_bm PySem.F.plainAttrs_list PySem.F.slot_list_append PySem.F.type_list_append mt_append ho (pa_cons he pa_nil hst) (base_b hb) (by rw [hst] <;> rfl) hline hst rfl
  refine (ps_expr hpe rfl).wk fun D σ H ⟨W, ρ, S0, rel, h⟩ => ⟨W, ρ, S0, rel, (ORes.run rel h).mono fun xd S1 W1 H1 l1 w1 pp u ru => ?_⟩
  have rel1 := rel.step l1 w1
  cases hx : lstAt xd S1 with
  | none => rw [hx] at pp; exact False.elim pp
  | some i =>
    rw [hx] at pp
    obtain ⟨rfl, ds, e⟩ := lstAt_some hx
    obtain ⟨hi, vs, hv, rs⟩ := ws_lst w1 e
    cases ru
    refine ⟨.inl ⟨rfl, vs, SqL.of hv⟩, W1, ρ, S1, rel1, (ORes.run rel1 pp).mono fun d S2 W2 H2 l2 w2 p2 v rv => ?_⟩
    exact app_fin (rel1.step l2 w2) (Nat.lt_of_lt_of_le hi l2.n) (l2.mu i hi) rv p2
/-- x.extend(e) -/
theorem SqT.heap {pins : List (Addr × Obj)} {s : Shared} {σ : L2.St} {H : Hp} {b : Addr} {zs : List V} (I : Inv X pins σ H s) (h : SqT X.K H b zs) : ∃ (its : List Value) (o : Obj) (n : Nat), Vals zs its ∧ s.heap.get? b = some o ∧ o.cls = .type "tuple" ∧ o.data = .seq its.toArray n := by
  obtain ⟨its, r, it, _⟩ := I.tuple h
  obtain ⟨o, h1, h2, n, h3⟩ := it
  exact ⟨its, o, n, r, h1, h2, h3⟩
def rExtD (K : PySem.W.Frag) : V → List V → Hp → VK → Prop := fun x vs H Q => ∃ l b xs zs, x = .ref l ∧ vs = [.ref b] ∧ H l = some (.lst xs) ∧ (Rd H b (.lst zs) ∨ SqT K H b zs) ∧ xs.length + zs.length ≤ sizeLine ∧ Q .non (upd H l (.lst (xs ++ zs)))
theorem mt_extD : MtM X "list.extend" (rExtD X.K) := by
  intro pins s σ H x vs v us Q I rx rv h
  obtain ⟨l, b, xs, zs, rfl, rfl, hH, hB, hz, q⟩ := h
  cases rx
  obtain ⟨u, rfl, ru⟩ := rv.one
  cases ru
  obtain ⟨z, its, n, r, hl, e⟩ := I.lstM hH
  have hb : ∃ (its2 : List Value) (o2 : Obj) (n2 : Nat) (T : String), Vals zs its2 ∧ s.heap.get? b = some o2 ∧ (T = "list" ∨ T = "tuple") ∧ o2.cls = .type T ∧ o2.data = .seq its2.toArray n2 := by
    rcases hB with h | h
    · obtain ⟨_, its2, n2, r2, e2⟩ := h.ok I.hok
      exact ⟨its2, _, n2, "list", r2, e2, .inl rfl, rfl, rfl⟩
    · obtain ⟨its2, o2, n2, r2, h1, h2, h3⟩ := SqT.heap I h
      exact ⟨its2, o2, n2, "tuple", r2, h1, .inr rfl, h2, h3⟩
  obtain ⟨its2, o2, n2, T, r2, e2, hT, c2, d2⟩ := hb
  have hsz : its.toArray.size + its2.toArray.size ≤ sizeLine := by rw [List.size_toArray, List.size_toArray, ← r.length, ← r2.length]; exact hz
  refine wpAny_call_entry_kw F.slot_list_extend ⟨_, e, rfl⟩ F.entry_list_extend ?_ (F.args_list_extend_2 _ _)
  show wpAny _ _ (Builtin.List.listExtendWith (.ref l) (.ref b) .none) _ _ _
  unfold Builtin.List.listExtendWith
  refine wpAny_bind (wpAny_typeOf (T := T) ⟨o2, e2, c2⟩ ?_)
  rw [if_pos (by rcases hT with rfl | rfl <;> simp)]
  refine wpAny_bind (listItems_at e2 d2 ?_)
  refine wpAny_bind (listItems_at e rfl ?_)
  have hlong : ¬ (!its.toArray.isEmpty && Builtin.List.listTooLong (its.toArray.size + its2.toArray.size)) = true := by
    rw [notLongL hsz, Bool.and_false]
    exact Bool.false_ne_true
  rw [if_neg hlong]
  refine wpAny_bind (listUpdate_at e rfl ?_ (by rw [List.size_toArray]; rw [List.size_toArray] at hsz; omega) (by rw [Array.size_append]; omega))
  apply wpAny_pure
  refine ⟨_, rfl, ?_⟩
  refine ⟨.non, _, I.lset (its' := its ++ its2) hH e (by simp) (r.append r2) ?_, rfl, q⟩
  rw [List.length_append]
  omega
theorem moreD_see {K : PySem.W.Frag} {W : Wd} {H : Hp} {d : Lw.D} {es : List Lw.D} {v : V} (h : moreD d = some es) (r : See K W H d v) : ∃ b zs, v = .ref b ∧ (Rd H b (.lst zs) ∨ SqT K H b zs) ∧ Reps K W H es zs := by
  unfold moreD at h
  split at h
  · cases h
    cases r with
    | lst h r => exact ⟨_, _, rfl, .inl h, r⟩
  · cases h
    cases r with
    | tup h r => exact ⟨_, _, rfl, .inr h, r⟩
  · cases h
theorem ds_ext {x : Str} {a : Expr} {fe : Ev → Sto → R Lw.D} {p ap cp pos : Pos} (S : Sok X g C ev E N sc Xw k) (hl : locB sc x = true) (hpn : plainName x = true) (hn : ixOf N x < N.length) (hline : (ap.endLine == cp.line) = true) (hs : notStar a = true) (he : PE X a (tE X.K E Xw fe)) :
    PS X (.Expr (.Call (.Attribute (.Name x p) "extend" ap) [a] [] cp) pos) (tS X.K E Xw fun ρ S => (match getSl ρ (ixOf N x) with
            | .own ds => (fe ρ S).run ρ fun d S1 => (match moreD (view S1 d) with
              | some es => if ds.length + es.length < LINE then .nx (ρ.set (ixOf N x) (.own (ds ++ es))) S1 else .bad
              | none => .bad)
            | _ => .bad)) := by
  obtain ⟨n1, n2, _⟩ := plain3 hpn
  obtain ⟨h1, h2⟩ := S.tok.loc x hl
  have hv : Vis X.env.scope x := by rcases h1 with q | q; exact .inl q; exact .inr (.inl q)
  have hst : starEach [a] X.env = (false, eval a X.env) :: starEach [] X.env := star_ok hs
  have hpe : PE X (.Call (.Attribute (.Name x p) "extend" ap) [a] [] cp) (tBM X.K "list" (rExtD X.K) (tVar (ixOf N x)) (tCons (tE X.K E Xw fe) tNil)) :=
    pe_bm PySem.F.plainAttrs_list PySem.F.slot_list_extend PySem.F.type_list_extend mt_extD (pe_var (by rw [S.c.hN]; exact ix_ok hn) hv n1 n2) (pa_cons he pa_nil hst) rfl (by rw [hst] <;> rfl) hline hst rfl
  refine (ps_expr hpe rfl).wk fun D σ H ⟨W, ρ, S0, rel, h⟩ => ?_
  dsimp only at h
  cases hd : getSl ρ (ixOf N x) with
  | un => rw [hd] at h; exact False.elim h
  | val xd => rw [hd] at h; exact False.elim h
  | own ds =>
    rw [hd] at h
    dsimp only at h
    obtain ⟨t, ht, hown⟩ := rel.own _ _ hd
    obtain ⟨vs, hh, hE⟩ := hown.held
    refine ⟨.ref t, ht, .inl ⟨rfl, vs, SqL.of hh.at_⟩, W, ρ, S0, rel, (ORes.run rel h).mono fun d S1 W1 H1 l1 w1 pp v rv => ?_⟩
    cases hm : moreD (view S1 d) with
    | none => rw [hm] at pp; exact False.elim pp
    | some es =>
      rw [hm] at pp
      dsimp only at pp
      split at pp
      · rename_i hz
        obtain ⟨b, zs, rfl, hb, rb⟩ := moreD_see hm ((show RepT X.K W1 H1 d v from .inl rv).see w1)
        have rel1 := rel.step l1 w1
        have hh1 := hh.le rel.ws l1
        have lz : vs.length + zs.length ≤ sizeLine := by rw [size_line, ← hh1.reps.length, ← rb.length]; exact Nat.le_of_lt hz
        refine ⟨t, b, vs, zs, rfl, rfl, hh1.at_, hb, lz, ?_⟩
        exact pp W1 _ σ (own_pre hh1) (rel1.writeOwn hd ht hh1 hE (by rw [List.length_append]; exact lz) (hh1.reps.append rb))
      · exact False.elim pp
/-- x = [..], a list of the store -/
theorem ds_box {x : Str} {es : List Expr} {fs : Ev → Sto → R (List Lw.D)} {p lp pos : Pos} (S : Sok X g C ev E N sc Xw k) (hl : locB sc x = true) (hn : ixOf N x < N.length) (ha : PA X es (tA X.K E Xw fs)) :
    PS X (.Assign [.Name x p] (.List es lp) pos) (tS X.K E Xw fun ρ S => if ixOf N x < ρ.length then (fs ρ S).run ρ fun ds S1 => if ds.length ≤ LINE then .nx (ρ.set (ixOf N x) (.val (.ref S1.length))) (S1 ++ [.lst ds]) else .bad else .bad) := by
  obtain ⟨h1, h2⟩ := S.tok.loc x hl
  refine (ps_set (i := ixOf N x) (by rw [S.c.hN]; exact S.c.nd) (by rw [S.c.hN]; exact ix_ok hn) h1 (pe_lst ha) rfl h2).wk fun D σ H ⟨W, ρ, S0, rel, h⟩ => ?_
  dsimp only at h
  split at h
  · rename_i hi
    refine ⟨W, ρ, S0, rel, (ORes.run rel h).mono fun ds S1 W1 H1 l1 w1 pp vs rv => ?_⟩
    split at pp
    · rename_i hz
      have hz' : vs.length ≤ sizeLine := by rw [size_line, ← rv.length]; exact hz
      refine ⟨hz', fun t ht => ?_⟩
      have L := le_push (o := .lst vs) w1 ht
      have wp := ws_push w1 ht hz' rv
      have rel2 := (rel.step l1 w1).step L wp
      have rr : Rep X.K (W1.push t) (upd H1 t (.lst vs)) (.ref S1.length) (.ref t) := by
        have z := Rep.ref (K := X.K) (W := W1.push t) (H := upd H1 t (.lst vs)) (i := W1.n) (Nat.lt_succ_self _)
        rw [push_new] at z
        rw [w1.len]
        exact z
      exact pp (W1.push t) _ _ (L.pre w1) (rel2.set hi rr)
    · exact False.elim pp
  · exact False.elim h
theorem storeF_some {x : Lw.D} {f : Str} {v : Lw.D} {S S' : Sto} (h : storeF g x f v S = some S') : ∃ i c fs, x = .ref i ∧ S[i]? = some (.ins c fs) ∧ g.fld c f = true ∧ fs.length < 1000 ∧ S' = S.set i (.ins c (putS f v fs)) := by
  unfold storeF at h
  split at h
  · split at h
    · split at h
      · rename_i e1 e2
        rw [Bool.and_eq_true, decide_eq_true_eq] at e2
        exact ⟨_, _, _, rfl, e1, e2.1, e2.2, (Option.some.inj h).symm⟩
      · cases h
    · cases h
  · cases h
/-- the end of o.f = v -/
theorem fld_fin {W2 : Wd} {H2 : Hp} {ρ : Ev} {σ : L2.St} {S2 : Sto} {D : Ends} {x v : Lw.D} {f : Str} {xv yv : V} (c : Cok X g C ev E N sc Xw k) (rel : Rel X.K E W2 H2 ρ σ S2) (rx : RepT X.K W2 H2 x xv) (ry : Rep X.K W2 H2 v yv)
    (h : ORes X.K E Xw W2 H2 (match storeF g x f v S2 with
            | some S3 => .nx ρ S3
            | none => .bad) D) : ∃ a C0 dx fs, xv = .ref a ∧ H2 a = some (.ins C0 dx fs) ∧ Cls X.K C0 ∧ NoAttr X.K C0 f ∧ fs.length < 1000 ∧ D.nx σ (upd H2 a (.ins C0 dx (putF f yv fs))) := by
  cases z : storeF g x f v S2 with
  | none => rw [z] at h; exact False.elim h
  | some S3 =>
    rw [z] at h
    obtain ⟨i, cn, fs, rfl, e1, e2, e3, rfl⟩ := storeF_some z
    obtain ⟨hi, rfl⟩ := repT_ref rx
    obtain ⟨_, dx, gs, hH, pr⟩ := ws_ins rel.ws e1
    obtain ⟨k1, k2⟩ := c.fld cn f e2
    refine ⟨_, _, dx, gs, rfl, hH, k1, k2, by rw [← flds_len pr]; exact e3, ?_⟩
    have P := sto_preM (o := .ins (He.ga X.K cn) dx (putF f yv gs)) rel.ws hi
    exact h W2 _ σ P (rel.writeM hi ⟨dx, _, upd_same, L2.Paired.mapP (flds_put ry pr) fun _ _ z => ⟨z.nm, z.rep.pre P⟩⟩ (fun _ e => by cases e) (fun _ e => by cases e) (fun _ _ e => by cases e))
/-- o.f = e -/
theorem ds_fld {o e : Expr} {f : Str} {fo fe : Ev → Sto → R Lw.D} {p pos : Pos} (S : Sok X g C ev E N sc Xw k) (hc : noComp e = true) (he : PE X e (tE X.K E Xw fe)) (ho : PE X o (tT X.K E Xw fo)) :
    PS X (.Assign [.Attribute o f p] e pos) (tS X.K E Xw fun ρ S => (fe ρ S).run ρ fun v S1 => (fo ρ S1).run ρ fun x S2 => (match storeF g x f v S2 with
            | some S3 => .nx ρ S3
            | none => .bad)) := by
  refine (ps_fld ho he (sw_none hc _)).wk fun D σ H ⟨W, ρ, S0, rel, h⟩ => ⟨W, ρ, S0, rel, (ORes.run rel h).mono fun d S1 W1 H1 l1 w1 pp v rv => ?_⟩
  have rel1 := rel.step l1 w1
  refine ⟨W1, ρ, S1, rel1, (ORes.run rel1 pp).mono fun x S2 W2 H2 l2 w2 p2 xv rx => ?_⟩
  exact fld_fin S.c (rel1.step l2 w2) rx (rv.pre (l2.pre w1)) p2
/-- o.f = [..] -/
theorem ds_fldL {o : Expr} {es : List Expr} {f : Str} {fo : Ev → Sto → R Lw.D} {fs : Ev → Sto → R (List Lw.D)} {p lp pos : Pos} (S : Sok X g C ev E N sc Xw k) (ha : PA X es (tA X.K E Xw fs)) (ho : PE X o (tT X.K E Xw fo)) :
    PS X (.Assign [.Attribute o f p] (.List es lp) pos) (tS X.K E Xw fun ρ S => (fs ρ S).run ρ fun ds S1 => if ds.length ≤ LINE then (fo ρ (S1 ++ [.lst ds])).run ρ fun x S2 => (match storeF g x f (.ref S1.length) S2 with
            | some S3 => .nx ρ S3
            | none => .bad) else .bad) := by
  refine (ps_fld ho (pe_lst ha) (sw_none rfl _)).wk fun D σ H ⟨W, ρ, S0, rel, h⟩ => ⟨W, ρ, S0, rel, (ORes.run rel h).mono fun ds S1 W1 H1 l1 w1 pp vs rv => ?_⟩
  split at pp
  · rename_i hz
    have hz' : vs.length ≤ sizeLine := by rw [size_line, ← rv.length]; exact hz
    refine ⟨hz', fun t ht => ?_⟩
    have L := le_push (o := .lst vs) w1 ht
    have wp := ws_push w1 ht hz' rv
    have rel2 := (rel.step l1 w1).step L wp
    have rr : Rep X.K (W1.push t) (upd H1 t (.lst vs)) (.ref S1.length) (.ref t) := by
      have z := Rep.ref (K := X.K) (W := W1.push t) (H := upd H1 t (.lst vs)) (i := W1.n) (Nat.lt_succ_self _)
      rw [push_new] at z
      rw [w1.len]
      exact z
    refine ⟨W1.push t, ρ, _, rel2, (ORes.run rel2 (ORes.pre (L.pre w1) pp)).mono fun x S2 W2 H2 l2 w2 p2 xv rx => ?_⟩
    exact fld_fin S.c (rel2.step l2 w2) rx (rr.pre (l2.pre wp)) p2
  · exact False.elim pp
/-- x.append(e), x lent for as long as e is reckoned -/
theorem ds_lend {x : Str} {a : Expr} {fe : Ev → Sto → R Lw.D} {p ap cp pos : Pos} (S : Sok X g C ev E N sc Xw k) (hl : locB sc x = true) (hpn : plainName x = true) (hn : ixOf N x < N.length) (hline : (ap.endLine == cp.line) = true) (hs : notStar a = true) (he : PE X a (tE X.K E Xw fe)) :
    PS X (.Expr (.Call (.Attribute (.Name x p) "append" ap) [a] [] cp) pos) (tS X.K E Xw fun ρ S => (match getSl ρ (ixOf N x) with
            | .own ds => (fe (ρ.set (ixOf N x) (.val (.ref S.length))) (S ++ [.lst ds])).run (ρ.set (ixOf N x) (.val (.ref S.length))) fun d S1 => (match popD S.length d S1 with
              | some (ds', S3) => if ds'.length < LINE then .nx (ρ.set (ixOf N x) (.own (ds' ++ [d]))) S3 else .bad
              | none => .bad)
            | _ => .bad)) := by
  obtain ⟨n1, n2, _⟩ := plain3 hpn
  obtain ⟨h1, h2⟩ := S.tok.loc x hl
  have hv : Vis X.env.scope x := by rcases h1 with q | q; exact .inl q; exact .inr (.inl q)
  have hst : starEach [a] X.env = (false, eval a X.env) :: starEach [] X.env := star_ok hs
  have hpe : PE X (.Call (.Attribute (.Name x p) "append" ap) [a] [] cp) (tBM X.K "list" rAppend (tVar (ixOf N x)) (tCons (tE X.K E Xw fe) tNil)) :=
    pe_bm PySem.F.plainAttrs_list PySem.F.slot_list_append PySem.F.type_list_append mt_append (pe_var (by rw [S.c.hN]; exact ix_ok hn) hv n1 n2) (pa_cons he pa_nil hst) rfl (by rw [hst] <;> rfl) hline hst rfl
  refine (ps_expr hpe rfl).wk fun D σ H ⟨W, ρ, S0, rel, h⟩ => ?_
  dsimp only at h
  split at h
  · rename_i ds hd
    have hi : ixOf N x < ρ.length := getSl_lt hd (fun z => by cases z)
    obtain ⟨t, ht, rel1, P, mu, ⟨vs, hvs⟩, oth⟩ := rel.lend hd
    refine ⟨.ref t, ht, .inl ⟨rfl, vs, SqL.of hvs⟩, W.push t, _, _, rel1, ?_⟩
    cases z : fe (ρ.set (ixOf N x) (.val (.ref S0.length))) (S0 ++ [.lst ds]) with
    | bad => rw [z] at h; exact False.elim h
    | err c S1 =>
      rw [z] at h
      exact fun W' H' l w => h W' H' σ (rel1.step l w)
    | ok d S1 =>
      rw [z] at h
      have h : ORes X.K E Xw W H (match popD S0.length d S1 with
              | some (ds', S3) => if ds'.length < LINE then .nx (ρ.set (ixOf N x) (.own (ds' ++ [d]))) S3 else .bad
              | none => .bad) D := h
      intro W1 H1 l1 w1 v rv
      cases hp : popD S0.length d S1 with
      | none => rw [hp] at h; exact False.elim h
      | some q =>
        obtain ⟨ds', S3⟩ := q
        rw [hp] at h
        dsimp only at h
        split at h
        · rename_i hz
          obtain ⟨W3, rel3, P3, rv3⟩ := rel.back hd ht oth rel1 l1 w1 hp rv
          have hd3 : getSl (ρ.set (ixOf N x) (.own ds')) (ixOf N x) = .own ds' := by rw [getSl_set hi, if_pos rfl]
          obtain ⟨t', ht', hown⟩ := rel3.own _ _ hd3
          rw [ht] at ht'
          cases ht'
          obtain ⟨vs3, hh, hE⟩ := hown.held
          have lz : vs3.length < sizeLine := by rw [size_line, ← hh.reps.length]; exact hz
          refine ⟨t, vs3, v, rfl, rfl, hh.at_, lz, ?_⟩
          have rel4 := rel3.writeOwn hd3 ht hh hE (vs' := vs3 ++ [v]) (by rw [List.length_append]; exact lz) (hh.reps.append (Reps.one rv3))
          rw [List.set_set] at rel4
          exact h W3 _ σ (P3.trans (own_pre hh)) rel4
        · exact False.elim h
  · exact False.elim h
/-! ### try -/
theorem Sok.tr (S : Sok X g C ev E N sc Xw k) {Xw' : Str → L2.St → Hp → Prop} {pn : List (Addr × Obj)} {xe : Value → Shared → Prop} (tk : TakesA (X.tr pn xe) (wxOf ev Xw')) (hp : PassesOwn (model X.prog X.w) X.A X.env xe) : Sok (X.tr pn xe) g C ev E N sc Xw' k :=
  ⟨⟨S.c.hN, S.c.nd, S.c.hsc, S.c.calm, S.c.room, S.c.gd, tk, S.c.con, S.c.fns, S.c.bis, S.c.ew, S.c.stk, S.c.ar, S.c.fld, S.c.mts, S.c.mkr⟩, hp, ⟨S.tok.hN, S.tok.nd, S.tok.calm, S.tok.loc⟩, S.kind, S.exc, S.stk, S.frm, S.sub, S.cls⟩
/-- the class-telling call in an except suite -/
def tCls (K : PySem.W.Frag) (g : G) (ev : Str → Value) (i : Nat) (f : Str) (a : Addr) (cls : Value) : TE := fun σ H Q => ∃ c wd W S, cls = ev c ∧ g.cls f c = some wd ∧ σ[i]? = some (some (.ref a)) ∧ WS K W H S ∧ Fin K W H S wd Q
theorem pe_cls {f nm : Str} {q1 q2 q3 : Pos} {a t : Addr} {oe ot : Obj} {cls : Value} {pn : List (Addr × Obj)} (S : Sok X g C ev E N sc Xw k) (hf : glB sc f = true) (pf : plainName f = true) (hnm : isLocB sc nm = true) (pnm : plainName nm = true) (hn : ixOf N nm < N.length)
    (hz : PX.Zown cls none t oe) (ht : EmptyT ot) (hm : (t, ot) ∈ pn) : PE (X.suite a ((a, oe) :: pn)) (.Call (.Name f q1) [.Name nm q2] [] q3) (tCls X.K g ev (ixOf N nm) f a cls) := by
  constructor
  rintro pins s σ H Q I ⟨c, wd, W, S0, rfl, hcl, hσ, ws, q⟩
  obtain ⟨Ca, fa, fdat, x, e1, e2, e3, e4, F⟩ := S.cls f c wd hcl
  have gl : Gl (X.suite a ((a, oe) :: pn)) f := glOk (X := X.suite a ((a, oe) :: pn)) hf S.c.hsc
  have lv : Vis X.env.scope nm := by
    rw [S.c.hsc]
    unfold isLocB kindB at hnm
    split at hnm
    · exact .inl (by assumption)
    · cases hnm
  have pv : PE (X.suite a ((a, oe) :: pn)) (.Name nm q2) (tVar (ixOf N nm)) := pe_var (X := X.suite a ((a, oe) :: pn)) (by show X.N[_]? = _; rw [S.c.hN]; exact ix_ok hn) lv (plain3 pnm).1 (plain3 pnm).2.1
  have pa : PA (X.suite a ((a, oe) :: pn)) [.Name nm q2] (tCons (tVar (ixOf N nm)) tNil) := pa_cons pv pa_nil (star_ok rfl)
  refine wpAny_Call_Name_kw (ld_glob I gl e2 ?_ (plain3 pf).1)
  refine PySem.W.callWith_K (h₀ := X.base) I.ok.mod.kin e3 ?_ (star_ok rfl) rfl
  refine thn (pa.run q3 pins s σ H (fun vs H1 => vs = [.ref a] ∧ H1 = H) I ⟨.ref a, hσ, rfl, rfl⟩) ?_
  rintro us s1 ⟨vs, H1, I1, r, rfl, rfl⟩
  refine ⟨I1.kIn, ?_⟩
  obtain rfl : us = [.ref a] := by
    cases r with
    | cons r1 r2 => cases r2; cases r1; rfl
  have b := e4 s1 [.ref a] I1.kIn rfl
  have pin : ∀ p : Addr × Obj, p ∈ (a, oe) :: pn → L2H.PinOk (X.suite a ((a, oe) :: pn)).stack H1 s1 p := fun p hp => by
    have P1 := I1.pin p (List.mem_append_left _ hp)
    exact ⟨P1.1, P1.2.1, fun hm => by
      rcases List.mem_cons.mp (I1.stkSub p.1 hm) with z | z
      · exact P1.2.2.1 z
      · exact P1.2.2.2.1 z, P1.2.2.2.2⟩
  rw [e1] at hz
  refine wpAny_call (codeAny_mono (F.run (Q := Q) (Ex := fun _ _ _ => False) (by have := S.c.room.dp; show X.A.depth < _; omega) (by have := S.c.room.un; show X.A.units + 200 < _; omega) (pin (a, oe) List.mem_cons_self) (pin (t, ot) (List.mem_cons_of_mem _ hm)) hz ht I1.env0 b ws q) ?_)
  rintro (err | fl) s' hq
  · obtain ⟨_, _, _, _, _, _, _, _, _, _, _, _, z⟩ := hq
    exact z.elim
  · cases fl with
    | ret u => exact I1.after hq
    | _ => exact hq.elim
theorem ds_try {body : List Stmt} {x nm f : Str} {np q1 q2 q3 q4 hp pos : Pos} {fb : Ev → Sto → O} (S : Sok X g C ev E N sc Xw k) (hnm : isLocB sc nm = true) (pnm : plainName nm = true) (hn : ixOf N nm < N.length) (hx : g.exc x = true) (hg : glB sc x = true) (px : plainName x = true) (hf : glB sc f = true) (pf : plainName f = true)
    (ih : ∀ {X' : Cx} {Xw' : Str → L2.St → Hp → Prop}, Sok X' g C ev E N sc Xw' k → PSs X' body (tS X'.K E Xw' fb)) :
    PS X (.Try body [.ExceptHandler (some (.Name x np)) (some nm) [.Return (some (.Call (.Name f q1) [.Name nm q2] [] q3)) q4] hp] [] [] pos) (tS X.K E Xw fun ρ S => tryE g (ixOf N nm) x f (fb ρ S)) := by
  obtain ⟨Ca, m1, m2, _⟩ := S.exc x hx
  have ln : X.env.kindOf nm = some .local := by
    show X.env.scope.names.lookup nm = some .local
    rw [S.c.hsc]
    unfold isLocB kindB at hnm
    split at hnm
    · assumption
    · cases hnm
  refine (ps_tryA (tb := fun W => tS X.K E (fun c σ H => W (ev c) none σ H) fb) (ts := fun a cls => tSeq (tRet (tCls X.K g ev (ixOf N nm) f a cls)) tNext) S.stk S.frm (by rw [S.c.hN]; exact S.c.nd) (i := ixOf N nm) (by rw [S.c.hN]; exact ix_ok hn) ln
    (c := .ref Ca) ⟨glOk hg S.c.hsc, (plain3 px).1, .inl m1⟩ S.c.tk (fun W pn xe t p => ih (S.tr (t.imp fun cls σ H ⟨c, h1, h2, h3⟩ => by rw [h1]; exact h3) p)) fun a t oe ot cls pn hz ht hm => pss_cons (ps_ret (pe_cls S hf pf hnm pnm hn hz ht hm)) pss_nil).wk fun D σ H ⟨W, ρ, S0, rel, h⟩ => ⟨W, ρ, S0, rel, ?_⟩
  dsimp only at h
  cases z : fb ρ S0 with
  | nx ρ' S' => rw [z] at h; exact h
  | brk ρ' S' => rw [z] at h; exact h
  | cnt ρ' S' => rw [z] at h; exact h
  | ret d S' => rw [z] at h; exact h
  | bad => rw [z] at h; exact h
  | err c ρ1 S1 =>
    rw [z] at h
    have h : ORes X.K E Xw W H (if ixOf N nm < ρ1.length then (match g.sub c x with
      | some true => (match g.cls f c with
        | some wd => .ret wd S1
        | none => .bad)
      | some false => .err c ρ1 S1
      | none => .bad) else .bad) D := h
    split at h
    · rename_i hi
      intro W' H' σ' rel'
      cases hs : g.sub c x with
      | none => rw [hs] at h; exact False.elim h
      | some b =>
        rw [hs] at h
        have em := S.sub c x b hs
        rw [m2] at em
        refine ⟨b, em, fun hb a ha => ?_, fun hb => ?_⟩
        · subst hb
          dsimp only at h
          cases hc : g.cls f c with
          | none => rw [hc] at h; exact False.elim h
          | some wd =>
            rw [hc] at h
            refine ⟨c, wd, W', S1, rfl, hc, ?_, rel'.ws, fun W2 H2 l2 w2 v rv => h W2 H2 (rel'.le.trans l2) w2 v rv⟩
            rw [List.getElem?_set_self (by rw [← rel'.len]; exact hi)]
        · subst hb
          exact ⟨c, rfl, rfl, h W' H' σ' rel'⟩
    · exact False.elim h
/-! ### except suites that give back more than the word -/
def tH (K : PySem.W.Frag) (Cd : Lw.D → L2.St → Prop) (F : Lw.D → Expr → Option Lw.D) (e : Expr) : TE := fun σ H Q => ∃ wd W S d, Cd wd σ ∧ WS K W H S ∧ F wd e = some d ∧ Fin K W H S d Q
def tHs (K : PySem.W.Frag) (Cd : Lw.D → L2.St → Prop) (F : Lw.D → Expr → Option Lw.D) (es : List Expr) : TA := fun σ H Q => ∃ wd W S ds, Cd wd σ ∧ WS K W H S ∧ hvL (F wd) es = some ds ∧ ∀ W' H', Le W H W' H' → WS K W' H' S → ∀ vs, Reps K W' H' ds vs → Q vs H'
section
variable {Y : Cx} {Cd : Lw.D → L2.St → Prop}
theorem hvL_cons {F : Expr → Option Lw.D} {e : Expr} {es : List Expr} {ds : List Lw.D} (h : hvL F (e :: es) = some ds) : ∃ d ds', F e = some d ∧ hvL F es = some ds' ∧ ds = d :: ds' := by
  unfold hvL at h
  split at h
  · split at h
    · cases h; exact ⟨_, _, by assumption, by assumption, rfl⟩
    · cases h
  · cases h
theorem pa_hv {F : Lw.D → Expr → Option Lw.D} : ∀ (es : List Expr), es.all notStar = true → (∀ e ∈ es, PE Y e (tH Y.K Cd F e)) → PA Y es (tHs Y.K Cd F es)
  | [], _, _ => pa_nil.wk fun σ H Q ⟨wd, W, S, ds, _, w, e, f⟩ => by
    cases e
    exact f W H w.refl w [] .nil
  | e :: es, hn, h => by
    rw [List.all_cons, Bool.and_eq_true] at hn
    refine (pa_cons (h e (List.mem_cons_self ..)) (pa_hv es hn.2 fun x hx => h x (List.mem_cons_of_mem _ hx)) (star_ok hn.1)).wk fun σ H Q ⟨wd, W, S, ds, cd, w, he, f⟩ => ?_
    obtain ⟨d, ds', e1, e2, rfl⟩ := hvL_cons he
    refine ⟨wd, W, S, d, cd, w, e1, fun W1 H1 l1 w1 v rv => ⟨wd, W1, S, ds', cd, w1, e2, fun W2 H2 l2 w2 vs rvs => f W2 H2 (l1.trans l2) w2 _ (.cons (rv.pre (l2.pre w1)) rvs)⟩⟩
theorem hv_c {F : Lw.D → Expr → Option Lw.D} {e : Expr} {v : V} {d0 : Lw.D} (h : PE Y e (tC v)) (hF : ∀ wd, F wd e = some d0) (r : ∀ W H, Rep Y.K W H d0 v) : PE Y e (tH Y.K Cd F e) :=
  h.wk fun σ H Q ⟨wd, W, S, d, _, w, he, f⟩ => by
    rw [hF] at he
    cases he
    exact f W H w.refl w v (r W H)
theorem hv_none {F : Lw.D → Expr → Option Lw.D} {e : Expr} (hF : ∀ wd, F wd e = none) : PE Y e (tH Y.K Cd F e) :=
  no_bad fun σ H Q ⟨wd, W, S, d, _, _, he, _⟩ => by rw [hF] at he; cases he
theorem pe_hv {nm f : Str} {W0 : Lw.D → Option Lw.D} (hole : ∀ q1 q2 q3, PE Y (.Call (.Name f q1) [.Name nm q2] [] q3) (tH Y.K Cd (fun wd _ => W0 wd) (.Call (.Name f q1) [.Name nm q2] [] q3))) : ∀ (n : Nat) (e : Expr), PE Y e (tH Y.K Cd (fun wd => hvE nm f (W0 wd) n) e)
  | 0, e => hv_none fun wd => rfl
  | n + 1, e => by
    cases e with
    | Constant c kk pos =>
      cases c with
      | none => exact hv_c pe_non (fun _ => rfl) fun _ _ => .non
      | bool b => exact hv_c pe_bl (fun _ => rfl) fun _ _ => .bl _
      | int i => exact hv_c pe_int (fun _ => rfl) fun _ _ => .int _
      | str x => exact hv_c pe_str (fun _ => rfl) fun _ _ => .str _
      | _ => exact hv_none fun _ => rfl
    | Tuple es kk pos =>
      by_cases hs : es.all notStar = true
      · refine (pe_tup (pa_hv (Y := Y) (Cd := Cd) (F := fun wd => hvE nm f (W0 wd) n) es hs fun e _ => pe_hv hole n e)).wk fun σ H Q ⟨wd, W, S, d, cd, w, he, fi⟩ => ?_
        have e2 : hvE nm f (W0 wd) (n + 1) (.Tuple es kk pos) = if es.all notStar then (match hvL (hvE nm f (W0 wd) n) es with
          | some ds => if ds.length ≤ LINE then some (.tup ds) else none
          | none => none) else none := rfl
        dsimp only at he
        rw [e2, if_pos hs] at he
        cases hl : hvL (hvE nm f (W0 wd) n) es with
        | none => rw [hl] at he; cases he
        | some ds =>
          rw [hl] at he
          dsimp only at he
          split at he
          · rename_i hz
            cases he
            refine ⟨wd, W, S, ds, cd, w, hl, fun W1 H1 l1 w1 vs rvs => ⟨by rw [size_line, ← rvs.length]; exact hz, fun p hp => ?_⟩⟩
            exact Fin.tup (S := S) w1 (fun W2 H2 l2 w2 v rv => fi W2 H2 (l1.trans l2) w2 v rv) rvs (by rw [size_line, ← rvs.length]; exact hz) hp
          · cases he
      · refine hv_none fun wd => ?_
        show (if es.all notStar then _ else none) = none
        rw [if_neg hs]
    | Call fx es ks pos =>
      by_cases hc : ∃ q1 q2, fx = .Name f q1 ∧ es = [.Name nm q2] ∧ ks = []
      · obtain ⟨q1, q2, rfl, rfl, rfl⟩ := hc
        refine (hole q1 q2 pos).wk fun σ H Q ⟨wd, W, S, d, cd, w, he, fi⟩ => ⟨wd, W, S, d, cd, w, ?_, fi⟩
        have e2 : hvE nm f (W0 wd) (n + 1) (.Call (.Name f q1) [.Name nm q2] [] pos) = if f = f ∧ nm = nm then W0 wd else none := rfl
        dsimp only at he
        rw [e2, if_pos ⟨rfl, rfl⟩] at he
        exact he
      · refine hv_none fun wd => ?_
        unfold hvE
        dsimp only
        split
        · rename_i f2 q1 nm2 q2
          by_cases h : f2 = f ∧ nm2 = nm
          · obtain ⟨rfl, rfl⟩ := h
            exact absurd ⟨_, _, rfl, rfl, rfl⟩ hc
          · rw [if_neg h]
        · rfl
    | _ => exact hv_none fun _ => rfl
end
theorem ds_tryO {body : List Stmt} {x : Str} {e : Expr} {d : Lw.D} {np q4 hp pos : Pos} {fb : Ev → Sto → O} (S : Sok X g C ev E N sc Xw k) (hx : g.exc x = true) (hg : glB sc x = true) (px : plainName x = true) (he : hvE "" "" none 5 e = some d)
    (ih : ∀ {X' : Cx} {Xw' : Str → L2.St → Hp → Prop}, Sok X' g C ev E N sc Xw' k → PSs X' body (tS X'.K E Xw' fb)) :
    PS X (.Try body [.ExceptHandler (some (.Name x np)) none [.Return (some e) q4] hp] [] [] pos) (tS X.K E Xw fun ρ S => tryO g x d (fb ρ S)) := by
  obtain ⟨Ca, m1, m2, _⟩ := S.exc x hx
  refine (ps_onlyA (tb := fun W => tS X.K E (fun c σ H => W (ev c) none σ H) fb) (ts := fun _ _ => tSeq (tRet (tH X.K (fun _ _ => True) (fun _ => hvE "" "" none 5) e)) tNext) S.stk S.frm
    (c := .ref Ca) ⟨glOk hg S.c.hsc, (plain3 px).1, .inl m1⟩ S.c.tk (fun W pn xe t p => ih (S.tr (t.imp fun cls σ H ⟨c, h1, h2, h3⟩ => by rw [h1]; exact h3) p)) fun a oe cls pn => pss_cons (ps_ret (pe_hv (Y := X.suite a ((a, oe) :: pn)) (Cd := fun _ _ => True) (W0 := fun _ => none) (fun q1 q2 q3 => hv_none fun _ => rfl) 5 e)) pss_nil).wk fun D σ H ⟨W, ρ, S0, rel, h⟩ => ⟨W, ρ, S0, rel, ?_⟩
  dsimp only at h
  cases z : fb ρ S0 with
  | nx ρ' S' => rw [z] at h; exact h
  | brk ρ' S' => rw [z] at h; exact h
  | cnt ρ' S' => rw [z] at h; exact h
  | ret d S' => rw [z] at h; exact h
  | bad => rw [z] at h; exact h
  | err c ρ1 S1 =>
    rw [z] at h
    have h : ORes X.K E Xw W H (match g.sub c x with
      | some true => .ret d S1
      | some false => .err c ρ1 S1
      | none => .bad) D := h
    intro W' H' σ' rel'
    cases hs : g.sub c x with
    | none => rw [hs] at h; exact False.elim h
    | some b =>
      rw [hs] at h
      have em := S.sub c x b hs
      rw [m2] at em
      refine ⟨b, em, fun hb a ha => ?_, fun hb => ?_⟩
      · subst hb
        dsimp only at h
        exact ⟨.non, W', S1, d, trivial, rel'.ws, he, fun W2 H2 l2 w2 v rv => h W2 H2 (rel'.le.trans l2) w2 v rv⟩
      · subst hb
        exact ⟨c, rfl, rfl, h W' H' σ' rel'⟩
theorem ds_tryH {body : List Stmt} {x nm f : Str} {e : Expr} {np q4 hp pos : Pos} {fb : Ev → Sto → O} (S : Sok X g C ev E N sc Xw k) (hnm : isLocB sc nm = true) (pnm : plainName nm = true) (hn : ixOf N nm < N.length) (hx : g.exc x = true) (hg : glB sc x = true) (px : plainName x = true) (hf : glB sc f = true) (pf : plainName f = true)
    (ih : ∀ {X' : Cx} {Xw' : Str → L2.St → Hp → Prop}, Sok X' g C ev E N sc Xw' k → PSs X' body (tS X'.K E Xw' fb)) :
    PS X (.Try body [.ExceptHandler (some (.Name x np)) (some nm) [.Return (some e) q4] hp] [] [] pos) (tS X.K E Xw fun ρ S => tryH g (ixOf N nm) x f (fun wd => hvE nm f (some wd) 5 e) (fb ρ S)) := by
  obtain ⟨Ca, m1, m2, _⟩ := S.exc x hx
  have ln : X.env.kindOf nm = some .local := by
    show X.env.scope.names.lookup nm = some .local
    rw [S.c.hsc]
    unfold isLocB kindB at hnm
    split at hnm
    · assumption
    · cases hnm
  refine (ps_tryA (tb := fun W => tS X.K E (fun c σ H => W (ev c) none σ H) fb) (ts := fun a cls => tSeq (tRet (tH X.K (fun wd σ => ∃ c, cls = ev c ∧ g.cls f c = some wd ∧ σ[ixOf N nm]? = some (some (.ref a))) (fun wd => hvE nm f (some wd) 5) e)) tNext) S.stk S.frm (by rw [S.c.hN]; exact S.c.nd) (i := ixOf N nm) (by rw [S.c.hN]; exact ix_ok hn) ln
    (c := .ref Ca) ⟨glOk hg S.c.hsc, (plain3 px).1, .inl m1⟩ S.c.tk (fun W pn xe t p => ih (S.tr (t.imp fun cls σ H ⟨c, h1, h2, h3⟩ => by rw [h1]; exact h3) p)) fun a t oe ot cls pn hz ht hm => pss_cons (ps_ret (pe_hv (Y := X.suite a ((a, oe) :: pn)) (Cd := fun wd σ => ∃ c, cls = ev c ∧ g.cls f c = some wd ∧ σ[ixOf N nm]? = some (some (.ref a))) (W0 := some) (fun q1 q2 q3 => (pe_cls S hf pf hnm pnm hn hz ht hm).wk fun σ H Q ⟨wd, W, S0, d, ⟨c, c1, c2, c3⟩, w, he, fi⟩ => by
      cases he
      exact ⟨c, wd, W, S0, c1, c2, c3, w, fi⟩) 5 e)) pss_nil).wk fun D σ H ⟨W, ρ, S0, rel, h⟩ => ⟨W, ρ, S0, rel, ?_⟩
  dsimp only at h
  cases z : fb ρ S0 with
  | nx ρ' S' => rw [z] at h; exact h
  | brk ρ' S' => rw [z] at h; exact h
  | cnt ρ' S' => rw [z] at h; exact h
  | ret d S' => rw [z] at h; exact h
  | bad => rw [z] at h; exact h
  | err c ρ1 S1 =>
    rw [z] at h
    have h : ORes X.K E Xw W H (if ixOf N nm < ρ1.length then (match g.sub c x with
      | some true => (match (g.cls f c).bind (fun wd => hvE nm f (some wd) 5 e) with
        | some wd => .ret wd S1
        | none => .bad)
      | some false => .err c ρ1 S1
      | none => .bad) else .bad) D := h
    split at h
    · rename_i hi
      intro W' H' σ' rel'
      cases hs : g.sub c x with
      | none => rw [hs] at h; exact False.elim h
      | some b =>
        rw [hs] at h
        have em := S.sub c x b hs
        rw [m2] at em
        refine ⟨b, em, fun hb a ha => ?_, fun hb => ?_⟩
        · subst hb
          dsimp only at h
          cases hc : g.cls f c with
          | none => rw [hc] at h; exact False.elim h
          | some wd =>
            rw [hc, Option.bind_some] at h
            cases hv : hvE nm f (some wd) 5 e with
            | none => rw [hv] at h; exact False.elim h
            | some d =>
              rw [hv] at h
              refine ⟨wd, W', S1, d, ⟨c, rfl, hc, ?_⟩, rel'.ws, hv, fun W2 H2 l2 w2 v rv => h W2 H2 (rel'.le.trans l2) w2 v rv⟩
              rw [List.getElem?_set_self (by rw [← rel'.len]; exact hi)]
        · subst hb
          exact ⟨c, rfl, rfl, h W' H' σ' rel'⟩
    · exact False.elim h
/-! ### for -/
theorem ds_for {tg it : Expr} {body : List Stmt} {fi : Ev → Sto → R (List Lw.D)} {fb : Ev → Sto → O} {pos : Pos} (S : Sok X g C ev E N sc Xw k) (hi : PI X tg it (tI X.K E Xw fi)) (hb : PSs X body (tS X.K E Xw fb)) (hs : notSet it = true) :
    PS X (.For tg it body [] pos) (tS X.K E Xw fun ρ S => (fi ρ S).run ρ fun ds S1 => forL (fun d ρ1 S2 => match asgT N sc n tg d ρ1 with
          | some ρ2 => fb ρ2 S2
          | none => .bad) ds ρ S1) := by
  refine (ps_for S.hp S.c.calm hi ((tgt_ok (E := E) S.tok n).1 tg) hb (fold_ok hs)).wk fun D σ H ⟨W, ρ, S0, rel, h⟩ => ⟨W, ρ, S0, rel, (ORes.run rel h).mono fun ds S1 W1 H1 l1 w1 p J wk => ?_⟩
  have rel1 := rel.step l1 w1
  generalize hbody : (fun (d : Lw.D) (ρ1 : Ev) (S2 : Sto) => (match asgT N sc n tg d ρ1 with
          | some ρ2 => fb ρ2 S2
          | none => (.bad : O))) = body' at p
  have key : ∀ i m σ H', (m = ds.length - i ∧ i ≤ ds.length ∧ ∃ W' ρ' S', Pre X.K W1 H1 W' H' ∧ Rel X.K E W' H' ρ' σ S' ∧ ORes X.K E Xw W' H' (forL body' (ds.drop i) ρ' S') D) →
      (J.stop i H' ∧ D.nx σ H') ∨ (J.go i H' ∧ ∃ Nx : L2.St → Hp → Prop, (∀ σ' H', Nx σ' H' → ∃ m', m' < m ∧ (m' = ds.length - (i + 1) ∧ i + 1 ≤ ds.length ∧ ∃ W' ρ' S', Pre X.K W1 H1 W' H' ∧ Rel X.K E W' H' ρ' σ' S' ∧ ORes X.K E Xw W' H' (forL body' (ds.drop (i + 1)) ρ' S') D)) ∧
        ∀ x H'', J.yld i H' x H'' → tG X.K E (asgT N sc n tg) (tgtIx N n tg) x σ H'' fun σ2 H2 => tS X.K E Xw fb { D with nx := Nx, ct := Nx, bk := D.nx } σ2 H2) := by
    rintro i m σ H' ⟨rfl, hile, W', ρ', S', pre, rel', r⟩
    obtain ⟨item, stop⟩ := wk W' H' S' pre rel'.ws
    by_cases hlt : i < ds.length
    · obtain ⟨go, yl⟩ := item i ds[i] (List.getElem?_eq_getElem hlt)
      refine .inr ⟨go, fun σ' H' => i + 1 ≤ ds.length ∧ ∃ W' ρ' S', Pre X.K W1 H1 W' H' ∧ Rel X.K E W' H' ρ' σ' S' ∧ ORes X.K E Xw W' H' (forL body' (ds.drop (i + 1)) ρ' S') D, fun σ' H' h => ⟨ds.length - (i + 1), by omega, rfl, h⟩, fun x H2 y => ?_⟩
      obtain ⟨W2, l2, w2, rx⟩ := yl x H2 y
      have rel2 := rel'.step l2 w2
      rw [List.drop_eq_getElem_cons hlt] at r
      have r2 : ORes X.K E Xw W' H' (match body' ds[i] ρ' S' with
        | .nx ρ1 S1 => forL body' (ds.drop (i + 1)) ρ1 S1
        | .cnt ρ1 S1 => forL body' (ds.drop (i + 1)) ρ1 S1
        | .brk ρ1 S1 => .nx ρ1 S1
        | o => o) D := r
      have eb : body' ds[i] ρ' S' = (match asgT N sc n tg ds[i] ρ' with
          | some ρ2 => fb ρ2 S'
          | none => (.bad : O)) := by rw [← hbody]
      rw [eb] at r2
      cases hf : asgT N sc n tg ds[i] ρ' with
      | none => rw [hf] at r2; exact False.elim r2
      | some ρ2 =>
        rw [hf] at r2
        dsimp only at r2
        refine ⟨W2, ρ', S', ds[i], ρ2, rel2, rx, hf, fun σ2 rel3 _ _ => ⟨W2, ρ2, S', rel3, ?_⟩⟩
        have p2 := l2.pre rel'.ws
        cases hr : fb ρ2 S' with
        | nx ρ3 S3 =>
          rw [hr] at r2
          exact fun W3 H3 σ3 p3 rel4 => ⟨hlt, W3, ρ3, S3, (pre.trans p2).trans p3, rel4, ORes.pre (p2.trans p3) r2⟩
        | cnt ρ3 S3 =>
          rw [hr] at r2
          exact fun W3 H3 σ3 p3 rel4 => ⟨hlt, W3, ρ3, S3, (pre.trans p2).trans p3, rel4, ORes.pre (p2.trans p3) r2⟩
        | brk ρ3 S3 =>
          rw [hr] at r2
          exact fun W3 H3 σ3 p3 rel4 => r2 W3 H3 σ3 (p2.trans p3) rel4
        | ret d S3 => rw [hr] at r2; exact r2
        | err c ρ3 S3 => rw [hr] at r2; exact r2
        | bad => rw [hr] at r2; exact False.elim r2
    · have e : i = ds.length := by omega
      subst e
      rw [List.drop_length] at r
      exact .inl ⟨stop, r W' H' σ Pre.refl rel'⟩
  exact ⟨fun i m σ H' => m = ds.length - i ∧ i ≤ ds.length ∧ ∃ W' ρ' S', Pre X.K W1 H1 W' H' ∧ Rel X.K E W' H' ρ' σ S' ∧ ORes X.K E Xw W' H' (forL body' (ds.drop i) ρ' S') D, ⟨ds.length, by omega, Nat.zero_le _, W1, ρ, S1, Pre.refl, rel1, p⟩, key⟩
end
end Lw
set_option maxHeartbeats 2000000
/-! LwJ: the evaluator is right for all statements, for all defs. -/
namespace Lw
open PySem PySem.Spec PyProof.Rows L2
section
variable {g : G} {C : Call} {ev : Str → Value} {E : Ent} {N : List Str} {k n : Nat} {X : Cx} {sc : Scope} {Xw : Str → L2.St → Hp → Prop}
theorem blockKind_fn {env : Env} (h : env.scope.kind = .function) : env.blockKind = .function := by
  unfold Env.blockKind
  rw [h]
  rfl
theorem sw_some {env : Env} {x y : Str} {a b : Expr} {p q pt pt2 : Pos} {kt k2 : Nat} (hsc : env.scope = sc) (hk : sc.kind = .function) (h : swapB sc [.Name x p, .Name y q] (.Tuple [a, b] k2 pt2) = true) :
    swappedStores [.Tuple [.Name x p, .Name y q] kt pt] (.Tuple [a, b] k2 pt2) env = pure (some [x, y]) := by
  simp only [swapB, Bool.and_eq_true, Bool.not_eq_true'] at h
  obtain ⟨⟨⟨⟨⟨⟨⟨hx, hy⟩, hl⟩, hxy⟩, ha⟩, hb⟩, hf⟩, hc⟩ := h
  have hk' := blockKind_fn (env := env) (by rw [hsc]; exact hk)
  have lx : env.kindOf x = some .local := by
    unfold Env.kindOf; rw [hsc]; unfold isLocB kindB at hx; split at hx <;> first | assumption | cases hx
  have ly : env.kindOf y = some .local := by
    unfold Env.kindOf; rw [hsc]; unfold isLocB kindB at hy; split at hy <;> first | assumption | cases hy
  have sa : ∀ e : Expr, notStar e = true → (match e with | .Starred .. => true | _ => false) = false := by
    intro e he; cases e <;> first | rfl | cases he
  unfold swappedStores
  simp only [List.any_cons, List.any_nil, sa a ha, sa b hb, hk', List.head?, Option.map, Option.getD, Expr.pos, List.filterMap_cons, List.filterMap_nil, lx, ly, hf, hc, hl]
  have e1 : ([x, y] : List Str).eraseDups = [x, y] := by
    have hne : (y == x) = false := by
      cases z : (y == x) with
      | false => rfl
      | true => rw [beq_iff_eq] at z; rw [z] at hxy; simp at hxy
    simp [List.eraseDups_cons, hne]
  simp [e1]
  intro h
  exfalso
  rcases h with h | h
  · cases a <;> first | (cases h; done) | cases ha
  · cases b <;> first | (cases h; done) | cases hb
theorem sw_some3 {env : Env} {x y z : Str} {a b c : Expr} {p q r pt pt2 : Pos} {kt k2 : Nat} (hsc : env.scope = sc) (hk : sc.kind = .function) (h : swap3 sc [.Name x p, .Name y q, .Name z r] (.Tuple [a, b, c] k2 pt2) = true) :
    swappedStores [.Tuple [.Name x p, .Name y q, .Name z r] kt pt] (.Tuple [a, b, c] k2 pt2) env = pure (some [x, y, z]) := by
  simp only [swap3, Bool.and_eq_true, Bool.not_eq_true'] at h
  obtain ⟨⟨⟨⟨⟨⟨⟨⟨⟨⟨⟨⟨hx, hy⟩, hz⟩, hl⟩, hl2⟩, hxy⟩, hxz⟩, hyz⟩, ha⟩, hb⟩, hc⟩, hf⟩, hcc⟩ := h
  have hk' := blockKind_fn (env := env) (by rw [hsc]; exact hk)
  have lk : ∀ {x : Str}, isLocB sc x = true → env.kindOf x = some .local := fun {x} hx => by
    unfold Env.kindOf; rw [hsc]; unfold isLocB kindB at hx; split at hx <;> first | assumption | cases hx
  have sa : ∀ e : Expr, notStar e = true → (match e with | .Starred .. => true | _ => false) = false := by
    intro e he; cases e <;> first | rfl | cases he
  have flip : ∀ {x y : Str}, (x == y) = false → (y == x) = false := fun {x y} h => by
    cases z : (y == x) with
    | false => rfl
    | true => rw [beq_iff_eq] at z; rw [z] at h; simp at h
  unfold swappedStores
  simp only [List.any_cons, List.any_nil, sa a ha, sa b hb, sa c hc, hk', List.head?, Option.map, Option.getD, Expr.pos, List.filterMap_cons, List.filterMap_nil, lk hx, lk hy, lk hz, hf, hcc, hl, hl2]
  have e1 : ([x, y, z] : List Str).eraseDups = [x, y, z] := by
    simp [List.eraseDups_cons, flip hxy, flip hxz, flip hyz]
  simp [e1]
  intro h
  exfalso
  rcases h with h | h | h
  · cases a <;> first | (cases h; done) | cases ha
  · cases b <;> first | (cases h; done) | cases hb
  · cases c <;> first | (cases h; done) | cases hc
theorem sw_no {env : Env} {tg : List Expr} {e : Expr} {p : Pos} {kt : Nat} (hsc : env.scope = sc) (h : swapN sc tg e = true) :
    swappedStores [.Tuple tg kt p] e env = pure none := by
  cases e with
  | Tuple vs k2 pt2 =>
    unfold swapN at h
    dsimp only at h
    split at h
    · rename_i x px y py
      unfold swappedStores
      dsimp only
      simp only [List.filterMap_cons, List.filterMap_nil, isLoc_iff hsc]
      by_cases hl : py.line = px.line
      · cases hx : isLocB sc x with
        | false => cases isLocB sc y <;> simp [Expr.pos, hl]
        | true =>
          cases hy : isLocB sc y with
          | false => simp [Expr.pos, hl]
          | true =>
            rw [hx, hy] at h
            have hv : vs.all (foldedForSure 8) = true := h
            simp [Expr.pos, hl, hv]
      · cases isLocB sc x <;> cases isLocB sc y <;> simp [Expr.pos, hl]
    · cases h
  | _ => rfl
theorem sSs {f f' : Ev → Sto → O} (h : ∀ ρ S, f ρ S = f' ρ S) {st : List Stmt} (q : PSs X st (tS X.K E Xw f')) : PSs X st (tS X.K E Xw f) := by
  have e : f = f' := by funext ρ S; exact h ρ S
  rw [e]; exact q
structure SndS (g : G) (C : Call) (ev : Str → Value) (E : Ent) (N : List Str) (k n : Nat) : Prop where
  s : ∀ {X : Cx} {sc : Scope} {Xw : Str → L2.St → Hp → Prop} (boxy : Bool), Sok X g C ev E N sc Xw k → ∀ st, PS X st (tS X.K E Xw (exS g C N boxy n sc st))
  ss : ∀ {X : Cx} {sc : Scope} {Xw : Str → L2.St → Hp → Prop} (boxy : Bool), Sok X g C ev E N sc Xw k → ∀ sts, PSs X sts (tS X.K E Xw (exSs g C N boxy n sc sts))
theorem if_and {p q : Prop} [Decidable p] [Decidable q] {α : Type} {a b : α} (h : p) : (if p ∧ q then a else b) = if q then a else b := by
  by_cases hq : q
  · rw [if_pos ⟨h, hq⟩, if_pos hq]
  · rw [if_neg (fun z => hq z.2), if_neg hq]
/-- a store to a name: the place is known where the reading is -/
theorem st_name {st : Stmt} {x : Str} {xs : List Str} {f : Ev → Sto → O} (S : Sok X g C ev E N sc Xw k)
    (q : ixOf N x < N.length → PS X st (tS X.K E Xw fun ρ S => if ixOf N x < ρ.length then f ρ S else .bad)) :
    PS X st (tS X.K E Xw fun ρ0 S => if ixOf N x < (freeze N xs ρ0).length then f (freeze N xs ρ0) S else .bad) :=
  ps_at (x := x) S (fun ρ S h => by rw [if_neg (by rw [freeze_len]; exact h)]) fun hn => fr_S (f := fun ρ S => if ixOf N x < ρ.length then f ρ S else .bad) (q hn)
theorem s_assign (S : Sok X g C ev E N sc Xw k) (boxy : Bool) (ts : List Expr) (e : Expr) (pos : Pos) : PS X (.Assign ts e pos) (tS X.K E Xw (exS g C N boxy (n + 1) sc (.Assign ts e pos))) := by
  have none_ : (∀ ρ S, exS g C N boxy (n + 1) sc (.Assign ts e pos) ρ S = .bad) → PS X (.Assign ts e pos) (tS X.K E Xw (exS g C N boxy (n + 1) sc (.Assign ts e pos))) := no_badS
  match ts, none_ with
  | [], nb => exact nb fun ρ S => by simp only [exS]
  | _ :: _ :: _, nb => exact nb fun ρ S => by simp only [exS]
  | [t], nb =>
    by_cases h1 : ∃ x p, t = .Name x p
    · obtain ⟨x, p, rfl⟩ := h1
      by_cases hl : locB sc x = true
      · by_cases hc : ∃ es lp, e = .List es lp
        · obtain ⟨es, lp, rfl⟩ := hc
          by_cases hs : es.all notStar = true
          · cases boxy with
            | true =>
              refine sS (f' := fun ρ0 S => if ixOf N x < (freeze N (gens n (.List es lp)) ρ0).length then (evA g C N n sc es (freeze N (gens n (.List es lp)) ρ0) S).run (freeze N (gens n (.List es lp)) ρ0) fun ds S1 => if ds.length ≤ LINE then .nx ((freeze N (gens n (.List es lp)) ρ0).set (ixOf N x) (.val (.ref S1.length))) (S1 ++ [.lst ds]) else .bad else .bad)
                (fun ρ S => by simp [exS, hl, hs]) ?_
              exact st_name (x := x) (f := fun ρ S => (evA g C N n sc es ρ S).run ρ fun ds S1 => if ds.length ≤ LINE then .nx (ρ.set (ixOf N x) (.val (.ref S1.length))) (S1 ++ [.lst ds]) else .bad) S fun hn => ds_box S hl hn ((snd_n g C ev E N k n).a S.c es hs)
            | false =>
            refine sS (f' := fun ρ0 S => if ixOf N x < (freeze N (gens n (.List es lp)) ρ0).length then (evA g C N n sc es (freeze N (gens n (.List es lp)) ρ0) S).run (freeze N (gens n (.List es lp)) ρ0) fun ds S1 => if ds.length ≤ LINE then .nx ((freeze N (gens n (.List es lp)) ρ0).set (ixOf N x) (.own ds)) S1 else .bad else .bad)
              (fun ρ S => by simp [exS, hl, hs]) ?_
            exact st_name (x := x) (f := fun ρ S => (evA g C N n sc es ρ S).run ρ fun ds S1 => if ds.length ≤ LINE then .nx (ρ.set (ixOf N x) (.own ds)) S1 else .bad) S fun hn => ds_own S hl hn ((snd_n g C ev E N k n).a S.c es hs)
          · exact nb fun ρ S => by simp [exS, hl, hs]
        · by_cases hps : plainSet sc x e = true
          · refine sS (f' := fun ρ0 S => if ixOf N x < (freeze N (gens n e) ρ0).length then (evE g C N n sc e (freeze N (gens n e) ρ0) S).run (freeze N (gens n e) ρ0) fun d S1 => .nx ((freeze N (gens n e) ρ0).set (ixOf N x) (.val d)) S1 else .bad)
              (fun ρ S => by cases e <;> first | (exact absurd ⟨_, _, rfl⟩ hc) | simp [exS, hl, hps]) ?_
            exact st_name (x := x) (f := fun ρ S => (evE g C N n sc e ρ S).run ρ fun d S1 => .nx (ρ.set (ixOf N x) (.val d)) S1) S fun hn => ds_val S hl hn hps
          · exact nb fun ρ S => by cases e <;> first | (exact absurd ⟨_, _, rfl⟩ hc) | simp [exS, hl, hps]
      · exact nb fun ρ S => by simp [exS, hl]
    by_cases h2 : ∃ tg kt p, t = .Tuple tg kt p
    · obtain ⟨tg, kt, p, rfl⟩ := h2
      by_cases hw : swapB sc tg e = true
      · by_cases hsh : ∃ x px y py a b k2 pt2, tg = [.Name x px, .Name y py] ∧ e = .Tuple [a, b] k2 pt2
        · obtain ⟨x, px, y, py, a, b, k2, pt2, rfl, rfl⟩ := hsh
          have hw2 := hw
          simp only [swapB, Bool.and_eq_true, Bool.not_eq_true'] at hw2
          obtain ⟨⟨⟨⟨⟨⟨⟨hx, hy⟩, hl⟩, hxy⟩, ha⟩, hb⟩, hf⟩, hcc⟩ := hw2
          refine sS (f' := fun ρ0 S => (fun ρ S => if decide (ixOf N x < ρ.length) && decide (ixOf N y < ρ.length) then (evA g C N n sc [a, b] ρ S).run ρ fun ds S1 => (match ds with
              | [d1, d2] => .nx ((ρ.set (ixOf N x) (.val d1)).set (ixOf N y) (.val d2)) S1
              | _ => .bad) else .bad) (freeze N (gens n (.Tuple [a, b] k2 pt2)) ρ0) S) (fun ρ S => by simp [exS, hw, ha, hb] <;> rfl) ?_
          refine ps_at (x := x) S (fun ρ S h => by simp [freeze_len, h]) fun hnx => ps_at (x := y) S (fun ρ S h => by simp [freeze_len, h]) fun hny => fr_S (f := fun ρ S => if decide (ixOf N x < ρ.length) && decide (ixOf N y < ρ.length) then (evA g C N n sc [a, b] ρ S).run ρ fun ds S1 => (match ds with
              | [d1, d2] => .nx ((ρ.set (ixOf N x) (.val d1)).set (ixOf N y) (.val d2)) S1
              | _ => .bad) else .bad) (ds_par S hx hy hxy hnx hny (sw_some S.c.hsc S.kind hw) ((snd_n g C ev E N k n).a S.c [a, b] (by simp [ha, hb])))
        · exfalso
          unfold swapB at hw
          split at hw
          · exact hsh ⟨_, _, _, _, _, _, _, _, rfl, rfl⟩
          · cases hw
      · by_cases hw3 : swap3 sc tg e = true
        · by_cases hsh : ∃ x px y py z pz a b c k2 pt2, tg = [.Name x px, .Name y py, .Name z pz] ∧ e = .Tuple [a, b, c] k2 pt2
          · obtain ⟨x, px, y, py, z, pz, a, b, c, k2, pt2, rfl, rfl⟩ := hsh
            have hw2 := hw3
            simp only [swap3, Bool.and_eq_true, Bool.not_eq_true'] at hw2
            obtain ⟨⟨⟨⟨⟨⟨⟨⟨⟨⟨⟨⟨hx, hy⟩, hz⟩, hl⟩, hl2⟩, hxy⟩, hxz⟩, hyz⟩, ha⟩, hb⟩, hc⟩, hf⟩, hcc⟩ := hw2
            refine sS (f' := fun ρ0 S => (fun ρ S => if decide (ixOf N x < ρ.length) && decide (ixOf N y < ρ.length) && decide (ixOf N z < ρ.length) then (evA g C N n sc [a, b, c] ρ S).run ρ fun ds S1 => (match ds with
              | [d1, d2, d3] => .nx (((ρ.set (ixOf N x) (.val d1)).set (ixOf N y) (.val d2)).set (ixOf N z) (.val d3)) S1
              | _ => .bad) else .bad) (freeze N (gens n (.Tuple [a, b, c] k2 pt2)) ρ0) S) (fun ρ S => by simp [exS, hw, hw3] <;> rfl) ?_
            refine ps_at (x := x) S (fun ρ S h => by simp [freeze_len, h]) fun hnx => ps_at (x := y) S (fun ρ S h => by simp [freeze_len, h]) fun hny => ps_at (x := z) S (fun ρ S h => by simp [freeze_len, h]) fun hnz => fr_S (f := fun ρ S => if decide (ixOf N x < ρ.length) && decide (ixOf N y < ρ.length) && decide (ixOf N z < ρ.length) then (evA g C N n sc [a, b, c] ρ S).run ρ fun ds S1 => (match ds with
              | [d1, d2, d3] => .nx (((ρ.set (ixOf N x) (.val d1)).set (ixOf N y) (.val d2)).set (ixOf N z) (.val d3)) S1
              | _ => .bad) else .bad) (ds_par3 S hx hy hz hxy hxz hyz hnx hny hnz (sw_some3 S.c.hsc S.kind hw3) ((snd_n g C ev E N k n).a S.c [a, b, c] (by simp [ha, hb, hc])))
          · exfalso
            unfold swap3 at hw3
            split at hw3
            · exact hsh ⟨_, _, _, _, _, _, _, _, _, _, _, rfl, rfl⟩
            · cases hw3
        · by_cases hn : swapN sc tg e = true
          · refine sS (f' := fun ρ0 S => (fun ρ S => (evE g C N n sc e ρ S).run ρ fun d S1 => (match asgT N sc n (.Tuple tg kt p) d ρ with
            | some ρ1 => .nx ρ1 S1
            | none => .bad)) (freeze N (gens n e) ρ0) S) (fun ρ S => by simp [exS, hw, hw3, hn] <;> rfl) (fr_S (ds_tup S (sw_no S.c.hsc hn)))
          · exact nb fun ρ S => by simp [exS, hw, hw3, hn]
    by_cases h3 : ∃ o i p, t = .Subscript o i p
    · obtain ⟨o, i, p, rfl⟩ := h3
      by_cases hi : notSlice i = true
      · refine sS (f' := fun ρ0 S => (fun ρ S => (evE g C N n sc e ρ S).run ρ fun v S1 => (evE g C N n sc o ρ S1).run ρ fun x S2 => (evE g C N n sc i ρ S2).run ρ fun j S3 => (match x with
            | .ref a => (match storeX a j v S3 with
              | some S4 => .nx ρ S4
              | none => .bad)
            | _ => .bad)) (freeze N (gens n e ++ gens n i) ρ0) S) (fun ρ S => by cases i <;> first | (cases hi; done) | rfl) (fr_S (ds_sub S hi ((snd_n g C ev E N k n).e S.c e) ((snd_n g C ev E N k n).e S.c o) ((snd_n g C ev E N k n).e S.c i)))
      · exact nb fun ρ S => by cases i <;> first | (exact absurd rfl hi) | rfl
    by_cases h4 : ∃ o f p, t = .Attribute o f p
    · obtain ⟨o, f, p, rfl⟩ := h4
      by_cases hc : ∃ es lp, e = .List es lp
      · obtain ⟨es, lp, rfl⟩ := hc
        by_cases hs : es.all notStar = true
        · exact sS (f' := fun ρ0 S => (fun ρ S => (evA g C N n sc es ρ S).run ρ fun ds S1 => if ds.length ≤ LINE then (evT g C N n sc o ρ (S1 ++ [.lst ds])).run ρ fun x S2 => (match storeF g x f (.ref S1.length) S2 with
            | some S3 => .nx ρ S3
            | none => .bad) else .bad) (freeze N (gens n (.List es lp) ++ gensT n o) ρ0) S) (fun ρ S => by simp [exS, hs] <;> rfl) (fr_S (ds_fldL S ((snd_n g C ev E N k n).a S.c es hs) ((snd_n g C ev E N k n).t S.c o)))
        · exact nb fun ρ S => by simp [exS, hs]
      · by_cases hn : noComp e = true
        · exact sS (f' := fun ρ0 S => (fun ρ S => (evE g C N n sc e ρ S).run ρ fun v S1 => (evT g C N n sc o ρ S1).run ρ fun x S2 => (match storeF g x f v S2 with
            | some S3 => .nx ρ S3
            | none => .bad)) (freeze N (gens n e ++ gensT n o) ρ0) S) (fun ρ S => by cases e <;> first | (exact absurd ⟨_, _, rfl⟩ hc) | (cases hn; done) | rfl) (fr_S (ds_fld S hn ((snd_n g C ev E N k n).e S.c e) ((snd_n g C ev E N k n).t S.c o)))
        · exact nb fun ρ S => by cases e <;> first | (exact absurd ⟨_, _, rfl⟩ hc) | (exact absurd rfl hn) | rfl
    exact nb fun ρ S => by cases t <;> first | (exact absurd ⟨_, _, rfl⟩ h1) | (exact absurd ⟨_, _, _, rfl⟩ h2) | (exact absurd ⟨_, _, _, rfl⟩ h3) | (exact absurd ⟨_, _, _, rfl⟩ h4) | rfl
theorem s_aug (S : Sok X g C ev E N sc Xw k) (boxy : Bool) (t : Expr) (op : Operator) (e : Expr) (pos : Pos) : PS X (.AugAssign t op e pos) (tS X.K E Xw (exS g C N boxy (n + 1) sc (.AugAssign t op e pos))) := by
  by_cases h1 : ∃ x p, t = .Name x p
  · obtain ⟨x, p, rfl⟩ := h1
    by_cases hl : locB sc x = true
    · refine sS (f' := fun ρ0 S => if ixOf N x < (freeze N (gens n e) ρ0).length then (fun ρ S => (match getSl ρ (ixOf N x) with
          | .val d0 => (evE g C N n sc e ρ S).run ρ fun d S1 => (match augD op d0 d with
            | some d2 => .nx (ρ.set (ixOf N x) (.val d2)) S1
            | none => .bad)
          | _ => .bad)) (freeze N (gens n e) ρ0) S else .bad) (fun ρ S => by simp [exS, hl] <;> rfl) ?_
      exact st_name (x := x) (f := fun ρ S => (match getSl ρ (ixOf N x) with
          | .val d0 => (evE g C N n sc e ρ S).run ρ fun d S1 => (match augD op d0 d with
            | some d2 => .nx (ρ.set (ixOf N x) (.val d2)) S1
            | none => .bad)
          | _ => .bad)) S fun hn => ds_aug S hl hn ((snd_n g C ev E N k n).e S.c e)
    · exact no_badS fun ρ S => by simp [exS, hl]
  · exact no_badS fun ρ S => by cases t <;> first | (exact absurd ⟨_, _, rfl⟩ h1) | rfl
theorem s_expr0 (S : Sok X g C ev E N sc Xw k) (e : Expr) (pos : Pos) (hc : noComp e = true) : PS X (.Expr e pos) (tS X.K E Xw fun ρ0 S => (fun ρ S => (evE g C N n sc e ρ S).run ρ fun _ S1 => .nx ρ S1) (freeze N (gens n e) ρ0) S) :=
  fr_S (ds_expr (sw_none hc _) ((snd_n g C ev E N k n).e S.c e))
theorem s_expr (S : Sok X g C ev E N sc Xw k) (boxy : Bool) (e : Expr) (pos : Pos) : PS X (.Expr e pos) (tS X.K E Xw (exS g C N boxy (n + 1) sc (.Expr e pos))) := by
  by_cases h1 : ∃ x p m ap a cp, e = .Call (.Attribute (.Name x p) m ap) [a] [] cp
  · obtain ⟨x, p, m, ap, a, cp, rfl⟩ := h1
    by_cases hm : m = "append"
    · subst hm
      by_cases hline : (ap.endLine == cp.line) = true
      · by_cases hs : notStar a = true
        · by_cases hl : locB sc x = true
          · by_cases hp : plainName x = true
            · by_cases hx : x ∈ gens n a
              · refine sS (f' := fun ρ0 S => (fun ρ S => (match getSl ρ (ixOf N x) with
                | .own ds => (evE g C N n sc a (ρ.set (ixOf N x) (.val (.ref S.length))) (S ++ [.lst ds])).run (ρ.set (ixOf N x) (.val (.ref S.length))) fun d S1 => (match popD S.length d S1 with
                  | some (ds', S3) => if ds'.length < LINE then .nx (ρ.set (ixOf N x) (.own (ds' ++ [d]))) S3 else .bad
                  | none => .bad)
                | _ => .bad)) (freeze N ((gens n a).filter fun y => !(decide (y = x))) ρ0) S) (fun ρ S => by unfold exS; simp only [hline, hs, hl, hp, decide_eq_true hx]; rfl) ?_
                refine ps_at (x := x) S (fun ρ S h => ?_) fun hn => fr_S (f := fun ρ S => (match getSl ρ (ixOf N x) with
                | .own ds => (evE g C N n sc a (ρ.set (ixOf N x) (.val (.ref S.length))) (S ++ [.lst ds])).run (ρ.set (ixOf N x) (.val (.ref S.length))) fun d S1 => (match popD S.length d S1 with
                  | some (ds', S3) => if ds'.length < LINE then .nx (ρ.set (ixOf N x) (.own (ds' ++ [d]))) S3 else .bad
                  | none => .bad)
                | _ => .bad)) (ds_lend S hl hp hn hline hs ((snd_n g C ev E N k n).e S.c a))
                have e0 : getSl (freeze N ((gens n a).filter fun y => !(decide (y = x))) ρ) (ixOf N x) = .un := by
                  unfold getSl
                  rw [List.getD_eq_getElem?_getD, List.getElem?_eq_none (by rw [freeze_len]; exact Nat.le_of_not_lt h)]
                  rfl
                simp only [e0]
              · refine sS (f' := fun ρ0 S => (fun ρ S => (match getSl ρ (ixOf N x) with
                | .own ds => (evE g C N n sc a ρ S).run ρ fun d S1 => if ds.length < LINE then .nx (ρ.set (ixOf N x) (.own (ds ++ [d]))) S1 else .bad
                | .val x => (match lstAt x S with
                  | some i => (evE g C N n sc a ρ S).run ρ fun d S1 => appR i d ρ S1
                  | none => .bad)
                | _ => .bad)) (freeze N (gens n a) ρ0) S) (fun ρ S => by unfold exS; simp only [hline, hs, hl, hp, decide_eq_false hx]; rfl) ?_
                refine ps_at (x := x) S (fun ρ S h => ?_) fun hn => fr_S (f := fun ρ S => (match getSl ρ (ixOf N x) with
                | .own ds => (evE g C N n sc a ρ S).run ρ fun d S1 => if ds.length < LINE then .nx (ρ.set (ixOf N x) (.own (ds ++ [d]))) S1 else .bad
                | .val x => (match lstAt x S with
                  | some i => (evE g C N n sc a ρ S).run ρ fun d S1 => appR i d ρ S1
                  | none => .bad)
                | _ => .bad)) (ds_app S hl hp hn hline hs ((snd_n g C ev E N k n).e S.c a))
                have e0 : getSl (freeze N (gens n a) ρ) (ixOf N x) = .un := by
                  unfold getSl
                  rw [List.getD_eq_getElem?_getD, List.getElem?_eq_none (by rw [freeze_len]; exact Nat.le_of_not_lt h)]
                  rfl
                simp only [e0]
            · exact no_badS fun ρ S => by unfold exS; simp only [hline, hs, hl, hp]; rfl
          · exact no_badS fun ρ S => by unfold exS; simp only [hline, hs, hl]; rfl
        · exact no_badS fun ρ S => by unfold exS; simp only [hline, hs]; rfl
      · exact no_badS fun ρ S => by unfold exS; simp only [hline]; rfl
    · by_cases hx : m = "extend"
      · subst hx
        by_cases hline : (ap.endLine == cp.line) = true
        · by_cases hs : notStar a = true
          · by_cases hl : locB sc x = true
            · by_cases hp : plainName x = true
              · refine sS (f' := fun ρ0 S => (fun ρ S => (match getSl ρ (ixOf N x) with
                | .own ds => (evE g C N n sc a ρ S).run ρ fun d S1 => (match moreD (view S1 d) with
                  | some es => if ds.length + es.length < LINE then .nx (ρ.set (ixOf N x) (.own (ds ++ es))) S1 else .bad
                  | none => .bad)
                | _ => .bad)) (freeze N (gens n a) ρ0) S) (fun ρ S => by unfold exS; simp only [hline, hs, hl, hp]; rfl) ?_
                refine ps_at (x := x) S (fun ρ S h => ?_) fun hn => fr_S (f := fun ρ S => (match getSl ρ (ixOf N x) with
                | .own ds => (evE g C N n sc a ρ S).run ρ fun d S1 => (match moreD (view S1 d) with
                  | some es => if ds.length + es.length < LINE then .nx (ρ.set (ixOf N x) (.own (ds ++ es))) S1 else .bad
                  | none => .bad)
                | _ => .bad)) (ds_ext S hl hp hn hline hs ((snd_n g C ev E N k n).e S.c a))
                have e0 : getSl (freeze N (gens n a) ρ) (ixOf N x) = .un := by
                  unfold getSl
                  rw [List.getD_eq_getElem?_getD, List.getElem?_eq_none (by rw [freeze_len]; exact Nat.le_of_not_lt h)]
                  rfl
                simp only [e0]
              · exact no_badS fun ρ S => by unfold exS; simp only [hline, hs, hl, hp]; rfl
            · exact no_badS fun ρ S => by unfold exS; simp only [hline, hs, hl]; rfl
          · exact no_badS fun ρ S => by unfold exS; simp only [hline, hs]; rfl
        · exact no_badS fun ρ S => by unfold exS; simp only [hline]; rfl
      · refine sS (fun ρ S => ?_) (s_expr0 (n := n) S (.Call (.Attribute (.Name x p) m ap) [a] [] cp) pos rfl)
        unfold exS
        simp only [hm, hx, if_false]
  · by_cases h2 : ∃ o oi sp m ap a cp, e = .Call (.Attribute (.Subscript o oi sp) m ap) [a] [] cp
    · obtain ⟨o, oi, sp, m, ap, a, cp, rfl⟩ := h2
      by_cases hm : m = "append"
      · subst hm
        by_cases hline : (ap.endLine == cp.line) = true
        · by_cases hs : notStar a = true
          · refine sS (f' := fun ρ0 S => (fun ρ S => (evE g C N n sc (.Subscript o oi sp) ρ S).run ρ fun x S1 => (match lstAt x S1 with
            | some i => (evE g C N n sc a ρ S1).run ρ fun d S2 => appR i d ρ S2
            | none => .bad)) (freeze N (gens n (.Subscript o oi sp) ++ gens n a) ρ0) S) (fun ρ S => by unfold exS; simp only [hline, hs]; rfl) (fr_S (ds_appS S rfl hline hs ((snd_n g C ev E N k n).e S.c _) ((snd_n g C ev E N k n).e S.c a)))
          · exact no_badS fun ρ S => by unfold exS; simp only [hline, hs]; rfl
        · exact no_badS fun ρ S => by unfold exS; simp only [hline]; rfl
      · exact no_badS fun ρ S => by unfold exS; simp only [hm]; rfl
    · by_cases h3 : ∃ o f sp m ap a cp, e = .Call (.Attribute (.Attribute o f sp) m ap) [a] [] cp
      · obtain ⟨o, f, sp, m, ap, a, cp, rfl⟩ := h3
        by_cases hm : m = "append"
        · subst hm
          by_cases hline : (ap.endLine == cp.line) = true
          · by_cases hs : notStar a = true
            · refine sS (f' := fun ρ0 S => (fun ρ S => (evE g C N n sc (.Attribute o f sp) ρ S).run ρ fun x S1 => (match lstAt x S1 with
              | some i => (evE g C N n sc a ρ S1).run ρ fun d S2 => appR i d ρ S2
              | none => .bad)) (freeze N (gens n (.Attribute o f sp) ++ gens n a) ρ0) S) (fun ρ S => by unfold exS; simp only [hline, hs]; rfl) (fr_S (ds_appS S rfl hline hs ((snd_n g C ev E N k n).e S.c _) ((snd_n g C ev E N k n).e S.c a)))
            · exact no_badS fun ρ S => by unfold exS; simp only [hline, hs]; rfl
          · exact no_badS fun ρ S => by unfold exS; simp only [hline]; rfl
        · exact no_badS fun ρ S => by unfold exS; simp only [hm]; rfl
      by_cases hc : noComp e = true
      · refine sS (fun ρ S => ?_) (s_expr0 (n := n) S e pos hc)
        unfold exS
        dsimp only
        split
        · exact absurd ⟨_, _, _, _, _, _, rfl⟩ h1
        · exact absurd ⟨_, _, _, _, _, _, _, rfl⟩ h3
        · exact absurd ⟨_, _, _, _, _, _, _, rfl⟩ h2
        · rw [if_neg (by rw [hc]; exact Bool.false_ne_true)]
      · refine no_badS fun ρ S => ?_
        unfold exS
        dsimp only
        split
        · exact absurd ⟨_, _, _, _, _, _, rfl⟩ h1
        · exact absurd ⟨_, _, _, _, _, _, _, rfl⟩ h3
        · exact absurd ⟨_, _, _, _, _, _, _, rfl⟩ h2
        · have hc' : noComp e = false := by cases z : noComp e; rfl; exact absurd z hc
          rw [hc']; rfl
theorem s_ret (S : Sok X g C ev E N sc Xw k) (boxy : Bool) (v : Option Expr) (pos : Pos) : PS X (.Return v pos) (tS X.K E Xw (exS g C N boxy (n + 1) sc (.Return v pos))) := by
  cases v with
  | none => exact sS (fun ρ S => by simp only [exS]) ds_ret0
  | some e =>
    by_cases hb : boxy = true ∧ ∃ es lp, e = .List es lp
    · obtain ⟨rfl, es, lp, rfl⟩ := hb
      by_cases hs : es.all notStar = true
      · exact sS (f' := fun ρ0 S => (fun ρ S => (evA g C N n sc es ρ S).run ρ fun ds S1 => if ds.length ≤ LINE then .ret (.ref S1.length) (S1 ++ [.lst ds]) else .bad) (freeze N (gens n (.List es lp)) ρ0) S) (fun ρ S => by simp [exS, hs]) (fr_S (ds_retBox ((snd_n g C ev E N k n).a S.c es hs)))
      · exact no_badS fun ρ S => by simp [exS, hs]
    · by_cases hl : ∃ p, e = .List [] p
      · obtain ⟨p, rfl⟩ := hl
        cases boxy with
        | false => exact sS (f' := fun ρ0 S => (fun ρ S => (Lw.R.ok (Lw.D.lst []) S : R Lw.D).run ρ fun d S1 => .ret d S1) (freeze N (gens n (.List [] p)) ρ0) S) (fun ρ S => rfl) (fr_S (ds_ret den_nilF))
        | true => exact absurd ⟨rfl, _, _, rfl⟩ hb
      refine sS (f' := fun ρ0 S => (fun ρ S => (evE g C N n sc e ρ S).run ρ fun d S1 => .ret d S1) (freeze N (gens n e) ρ0) S) (fun ρ S => ?_) (fr_S (ds_ret ((snd_n g C ev E N k n).e S.c e)))
      cases boxy with
      | false =>
        cases e with
        | List es p =>
          cases es with
          | nil => exact absurd ⟨_, rfl⟩ hl
          | cons _ _ => rfl
        | _ => rfl
      | true => cases e <;> first | (exact absurd ⟨rfl, _, _, rfl⟩ hb) | rfl
theorem s_for (S : Sok X g C ev E N sc Xw k) (ih : SndS g C ev E N k n) (boxy : Bool) (tg it : Expr) (body els : List Stmt) (pos : Pos) : PS X (.For tg it body els pos) (tS X.K E Xw (exS g C N boxy (n + 1) sc (.For tg it body els pos))) := by
  cases els with
  | cons a b => exact no_badS fun ρ S => rfl
  | nil =>
    by_cases hs : notSet it = true
    · exact sS (f' := fun ρ0 S => (fun ρ S => (evI g C N n sc tg it ρ S).run ρ fun ds S1 => forL (fun d ρ1 S2 => match asgT N sc n tg d ρ1 with
          | some ρ2 => exSs g C N boxy n sc body ρ2 S2
          | none => .bad) ds ρ S1) (freeze N (gens n it) ρ0) S) (fun ρ S => by simp only [exS, hs]; rfl) (fr_S (ds_for S ((snd_n g C ev E N k n).it S.c tg it) (ih.ss boxy S body) hs))
    · exact no_badS fun ρ S => by simp only [exS, hs]; rfl
theorem s_while (S : Sok X g C ev E N sc Xw k) (ih : SndS g C ev E N k n) (boxy : Bool) (c : Expr) (body els : List Stmt) (pos : Pos) : PS X (.While c body els pos) (tS X.K E Xw (exS g C N boxy (n + 1) sc (.While c body els pos))) := by
  cases els with
  | cons a b => exact no_badS fun ρ S => rfl
  | nil =>
    exact sS (f' := fun ρ0 S => (fun ρ S => whileL (fun ρ1 S1 => evTest g C N n sc c ρ1 S1) (fun ρ1 S1 => match exSs g C N boxy n sc body ρ1 S1 with
          | .nx ρ2 S2 => .nx (freeze N (gens n c) ρ2) S2
          | .cnt ρ2 S2 => .cnt (freeze N (gens n c) ρ2) S2
          | o => o) 5000 ρ S) (freeze N (gens n c) ρ0) S) (fun ρ S => by unfold exS; rfl) (fr_S (ds_while 5000 S ((snd_n g C ev E N k n).test S.c c) (ih.ss boxy S body)))
theorem s_raise (S : Sok X g C ev E N sc Xw k) (boxy : Bool) (a b : Option Expr) (pos : Pos) : PS X (.Raise a b pos) (tS X.K E Xw (exS g C N boxy (n + 1) sc (.Raise a b pos))) := by
  by_cases h1 : ∃ c p q, a = some (.Call (.Name c p) [] [] q) ∧ b = none
  · obtain ⟨c, p, q, rfl, rfl⟩ := h1
    by_cases hc : (g.exc c && glB sc c && plainName c) = true
    · have h2 := hc
      simp only [Bool.and_eq_true] at h2
      exact sS (fun ρ S => by simp only [exS, hc, if_true]) (ds_raise S h2.1.1 h2.1.2 h2.2)
    · exact no_badS fun ρ S => by simp only [exS, hc]; rfl
  · refine no_badS fun ρ S => ?_
    unfold exS
    dsimp only
    split
    · exact absurd ⟨_, _, _, rfl, rfl⟩ h1
    · rfl
theorem s_try (S : Sok X g C ev E N sc Xw k) (ih : SndS g C ev E N k n) (boxy : Bool) (body : List Stmt) (hs : List ExceptHandler) (els fin : List Stmt) (pos : Pos) : PS X (.Try body hs els fin pos) (tS X.K E Xw (exS g C N boxy (n + 1) sc (.Try body hs els fin pos))) := by
  have e0 : exS g C N boxy (n + 1) sc (.Try body hs els fin pos) = fun ρ S => (match tryK g N sc hs els fin with
      | some F => F (exSs g C N boxy n sc body ρ S)
      | none => .bad) := by
    funext ρ S
    rfl
  rw [e0]
  cases hF : tryK g N sc hs els fin with
  | none => exact no_badS fun ρ S => rfl
  | some F =>
    by_cases h1 : ∃ x np nmo e q4 hp, hs = [.ExceptHandler (some (.Name x np)) nmo [.Return (some e) q4] hp] ∧ els = [] ∧ fin = []
    · obtain ⟨x, np, nmo, e, q4, hp, rfl, rfl, rfl⟩ := h1
      unfold tryK at hF
      dsimp only at hF
      split at hF
      · rename_i hc
        simp only [Bool.and_eq_true] at hc
        obtain ⟨⟨c1, c2⟩, c3⟩ := hc
        cases nmo with
        | none =>
          dsimp only at hF
          cases he : hvE "" "" none 5 e with
          | none => rw [he] at hF; cases hF
          | some d =>
            rw [he] at hF
            cases hF
            exact ds_tryO S c1 c2 c3 he (fb := exSs g C N boxy n sc body) fun S' => ih.ss boxy S' body
        | some nm =>
          dsimp only at hF
          cases hh : holeF 5 e with
          | none => rw [hh] at hF; cases hF
          | some f =>
            rw [hh] at hF
            dsimp only at hF
            split at hF
            · rename_i hc2
              simp only [Bool.and_eq_true, decide_eq_true_eq] at hc2
              obtain ⟨⟨d1, ⟨d2, d3⟩, d4⟩, d5⟩ := hc2
              split at hF
              · rename_i f2 q1 nm2 q2 q3
                split at hF
                · rename_i hnm
                  subst hnm
                  cases hF
                  have ef : f2 = f := Option.some.inj hh
                  subst ef
                  exact ds_try S d1 d4 d5 c1 c2 c3 d2 d3 (fb := exSs g C N boxy n sc body) fun S' => ih.ss boxy S' body
                · cases hF
              · cases hF
                exact ds_tryH S d1 d4 d5 c1 c2 c3 d2 d3 (fb := exSs g C N boxy n sc body) fun S' => ih.ss boxy S' body
            · cases hF
      · cases hF
    · exfalso
      unfold tryK at hF
      split at hF
      · exact h1 ⟨_, _, _, _, _, _, rfl, rfl, rfl⟩
      · cases hF
theorem sndS_n (g : G) (C : Call) (ev : Str → Value) (E : Ent) (N : List Str) (k : Nat) : ∀ n, SndS g C ev E N k n := by
  intro n
  induction n with
  | zero => exact ⟨fun _ _ st => no_badS fun _ _ => rfl, fun _ _ st => no_badSs fun _ _ => rfl⟩
  | succ n ih =>
    refine ⟨fun {X} {sc} {Xw} boxy S st => ?_, fun {X} {sc} {Xw} boxy S sts => ?_⟩
    · cases st with
      | Assign ts e pos => exact s_assign S boxy ts e pos
      | AugAssign t op e pos => exact s_aug S boxy t op e pos
      | Expr e pos => exact s_expr S boxy e pos
      | Return v pos => exact s_ret S boxy v pos
      | If c a b pos => exact sS (f' := fun ρ0 S => (fun ρ S => (evTest g C N n sc c ρ S).run ρ fun t S1 => if t then exSs g C N boxy n sc a ρ S1 else exSs g C N boxy n sc b ρ S1) (freeze N (gens n c) ρ0) S) (fun ρ S => by simp only [exS]) (fr_S (ds_if ((snd_n g C ev E N k n).test S.c c) (ih.ss boxy S a) (ih.ss boxy S b)))
      | For tg it body els pos => exact s_for S ih boxy tg it body els pos
      | While c body els pos => exact s_while S ih boxy c body els pos
      | Pass pos => exact sS (fun ρ S => by simp only [exS]) ds_pass
      | Break pos => exact sS (fun ρ S => by simp only [exS]) ds_break
      | Continue pos => exact sS (fun ρ S => by simp only [exS]) ds_cont
      | Raise a b pos => exact s_raise S boxy a b pos
      | Try body hs els fin pos => exact s_try S ih boxy body hs els fin pos
      | _ => exact no_badS fun _ _ => rfl
    · cases sts with
      | nil => exact sSs (fun ρ S => by simp only [exSs]) ds_nil
      | cons st sts => exact sSs (fun ρ S => by simp only [exSs]) (ds_cons (ih.s boxy S st) (ih.ss boxy S sts))
end
end Lw
set_option maxHeartbeats 2000000
/-! LwX: a def that tells the class of the exception that is handled. -/
namespace Lw
open PySem PySem.Spec PyProof.Rows L2

/-! ### its form -/
def isiN (xe : Str) : Expr → Option Str
  | .Call (.Name f _) [.Name y _, .Name C _] [] _ => if f = "isinstance" ∧ y = xe then some C else none
  | _ => none
def isiNs (xe : Str) : List Expr → Option (List Str)
  | [] => some []
  | e :: es => (isiN xe e).bind fun C => (isiNs xe es).map (C :: ·)
def wrdN : Expr → Option Str
  | .Constant (.str x) _ _ => some x
  | _ => none
def wrdNs : List Expr → Option (List Str)
  | [] => some []
  | e :: es => (wrdN e).bind fun C => (wrdNs es).map (C :: ·)
structure ClsF where
  kind : Str
  cs : List Str
  ws : List Str
  tag : Option Str := none
  str : Bool := false
/-- what it tells -/
def ClsF.res (F : ClsF) (wd : Str) : D := match F.tag with
  | none => .str wd
  | some t => .tup [.str t, .str wd]
def clsForm (xe : Str) : List Stmt → Option ClsF
  | [.Assign [.Name xk p1] (.List es p2) p3, .If (.BoolOp .Or [.Compare (.Call (.Attribute (.Name k1 p4) m1 a1) [.Constant (.bool true) j1 p5] [] c1) [.NotEq] [.Constant (.int 1) j2 p6] p7, .UnaryOp .Not i0 p8] p9) [.Return (some (.Constant (.str w) j3 p10)) p11] [] p12,
      .Return (some (.Subscript (.List ws p13) (.Call (.Attribute (.Name k2 p14) m2 a2) [.Constant (.bool true) j4 p15] [] c2) p16)) p17] =>
    if k1 = xk ∧ k2 = xk ∧ m1 = "count" ∧ m2 = "index" ∧ (a1.endLine == c1.line) = true ∧ (a2.endLine == c2.line) = true ∧ isiN xe i0 = some "ValueError" then
      (isiNs xe es).bind fun cs => (wrdNs ws).map fun wd => ⟨xk, cs, wd, none, false⟩
    else none
  | [.Assign [.Name xk p1] (.List es p2) p3, .If (.BoolOp .Or [.Compare (.Call (.Attribute (.Name k1 p4) m1 a1) [.Constant (.bool true) j1 p5] [] c1) [.NotEq] [.Constant (.int 1) j2 p6] p7, .UnaryOp .Not i0 p8, .Compare (.Call (.Name sf p20) [.Name y p21] [] p22) [.NotEq] [.Constant (.str z) j5 p23] p24] p9) [.Return (some (.Tuple [.Constant (.str g1) j6 p25, .Constant (.str w) j3 p10] n1 p26)) p11] [] p12,
      .Return (some (.Tuple [.Constant (.str g2) j7 p27, .Subscript (.List ws p13) (.Call (.Attribute (.Name k2 p14) m2 a2) [.Constant (.bool true) j4 p15] [] c2) p16] n2 p28)) p17] =>
    if k1 = xk ∧ k2 = xk ∧ m1 = "count" ∧ m2 = "index" ∧ (a1.endLine == c1.line) = true ∧ (a2.endLine == c2.line) = true ∧ isiN xe i0 = some "ValueError" ∧ sf = "str" ∧ y = xe ∧ z = "" then
      (isiNs xe es).bind fun cs => (wrdNs ws).map fun wd => ⟨xk, cs, wd, some g2, true⟩
    else none
  | [.Assign [.Name xk p1] (.List es p2) p3, .If (.BoolOp .Or [.Compare (.Call (.Attribute (.Name k1 p4) m1 a1) [.Constant (.bool true) j1 p5] [] c1) [.NotEq] [.Constant (.int 1) j2 p6] p7, .UnaryOp .Not i0 p8, .Compare (.Call (.Name sf p20) [.Name y p21] [] p22) [.NotEq] [.Constant (.str z) j5 p23] p24] p9) [.Return (some (.Constant (.str w) j3 p10)) p11] [] p12,
      .Return (some (.Subscript (.List ws p13) (.Call (.Attribute (.Name k2 p14) m2 a2) [.Constant (.bool true) j4 p15] [] c2) p16)) p17] =>
    if k1 = xk ∧ k2 = xk ∧ m1 = "count" ∧ m2 = "index" ∧ (a1.endLine == c1.line) = true ∧ (a2.endLine == c2.line) = true ∧ isiN xe i0 = some "ValueError" ∧ sf = "str" ∧ y = xe ∧ z = "" then
      (isiNs xe es).bind fun cs => (wrdNs ws).map fun wd => ⟨xk, cs, wd, none, true⟩
    else none
  | _ => none
/-- what the classes say of one class -/
def KindOk (K : PySem.W.Frag) (mg : Str → Option Value) (D : Addr) : List Str → List Bool → Prop
  | [], [] => True
  | C :: cs, b :: bs => (∃ Ca, mg C = some (.ref Ca) ∧ PySem.W.kitOne K (.ref D) (.ref Ca) = some b) ∧ KindOk K mg D cs bs
  | _, _ => False

/-! ### list.count, flat items -/
theorem count_eq {y : V} : ∀ {ys : List V} {us : List Value}, Vals ys us → ys.all flatV = true → us.countP (eqU y) = ys.countP fun z => eqV z y
  | _, _, .nil, _ => rfl
  | _, _, .cons r t, f => by
    rw [List.all_cons, Bool.and_eq_true] at f
    rw [List.countP_cons, List.countP_cons, count_eq t f.2, eqU_of r f.1]
def rCountV (K : PySem.W.Frag) : V → List V → Hp → VK → Prop := fun x xs H Q => ∃ (a : Addr) (ys : List V) (y : V), x = V.ref a ∧ xs = [y] ∧ SqL K H a ys ∧ flatV y = true ∧ ys.all flatV = true ∧ Q (.int ((ys.countP fun z => eqV z y : Nat) : Int)) H
theorem mt_countV {X : Cx} : MtR X "list.count" (rCountV X.K) := by
  intro pins s σ H x xs v us Q I rx rxs h
  obtain ⟨a, ys, y, rfl, rfl, hs, fy, fys, q⟩ := h
  cases rx
  obtain ⟨u, rfl, ru⟩ := rxs.one
  obtain ⟨its, rv, ⟨⟨cls, dd, data, sl⟩, n, ho, hc, hdn, hd⟩, hlen⟩ := I.list hs
  simp only at hc hd
  subst hc hd
  refine call_meets PySem.F.slot_list_count ⟨_, ho, rfl⟩ PySem.F.entry_list_count (PySem.F.args_list_count_2 _ _) (SeqAt.list_countAt a its.toArray n dd sl u (eqU y)) ⟨ho, fun u' hu' => mem_eqAt ru fy rv fys u' (by simpa using hu'), ?_⟩
  have e : its.toArray.toList.countP (eqU y) = ys.countP fun z => eqV z y := count_eq rv fys
  refine ⟨.int ((ys.countP fun z => eqV z y : Nat) : Int), H, I.tok _, ⟨s.toks, ?_⟩, q⟩
  show Value.int ((its.toArray.toList.countP (eqU y) : Nat) : Int) s.toks = _
  rw [e]

/-! ### isinstance of an exception that is held -/
theorem call_isP {X : Cx} {D t : Addr} {p : Addr × Obj} (C : L2.ExcC X.K D) (hp : p ∈ X.pn) (hz : PX.Zown (.ref D) none t p.2) : CallR X (.builtin "isinstance") (rIsE X.K D p.1) := by
  rintro pins s σ H xs us Q I r ⟨c, cv, b, rfl, hcv, e, q⟩
  cases r with
  | cons rx rr =>
    cases rr with
    | cons rt rr =>
      cases rr
      cases rx
      obtain rfl := hcv _ rt
      have at_ := (I.pin p (List.mem_append_left _ hp)).1
      obtain ⟨z1, z2, vs, hv, _⟩ := hz
      obtain ⟨a, oc, od, oda, osl⟩ := p
      dsimp only at z1 z2 hv at_
      subst z1 z2 hv
      have J : PySem.W.InstAt s.heap a ⟨.ref D, none, .fields vs, osl⟩ D none := ⟨at_, rfl, rfl, trivial⟩
      exact PySem.W.kia_one (PySem.W.handS_kitx_exc C.hg C.hk C.hs C.hd C.ha C.hn C.ht C.hm) I.kIn J e (fun z => nomatch z) fun tk => ⟨.bl b, H, I.kept (t' := tk) fun _ _ z => z, rfl, q⟩

/-- str(e) of an exception that is held, made without arguments -/
theorem call_strP {X : Cx} {D t : Addr} {p : Addr × Obj} {ot : Obj} (C : L2.ExcC X.K D) (ks : PySem.W.findIn X.K (.ref D) "__str__" = some (some (.builtin "BaseException.__str__"))) (hp : p ∈ X.pn) (ht : (t, ot) ∈ X.pn) (et : EmptyT ot) (hz : PX.Zown (.ref D) none t p.2) (hu : X.A.units + 2 < cLine) :
    CallR X (.type "str") (fun xs H Q => xs = [.ref p.1] ∧ Q (.str "") H) := by
  rintro pins s σ H xs us Q I r ⟨rfl, q⟩
  obtain rfl : us = [.ref p.1] := by
    cases r with
    | cons r1 r2 => cases r2; cases r1; rfl
  have a1 := (I.pin p (List.mem_append_left _ hp)).1
  have a2 := (I.pin (t, ot) (List.mem_append_left _ ht)).1
  obtain ⟨z1, z2, vs, hv, h0⟩ := hz
  obtain ⟨oc, n, on⟩ := et
  exact PySem.P.str_of_C_none hu ⟨I.kIn, p.2, vs, a1, z1, hv, h0⟩ ⟨ot, n, a2, oc, on⟩ ks C.hs ⟨.str "", H, I.tok _, ⟨_, rfl⟩, q⟩

/-! ### the walk -/
theorem ws_empty {K : PySem.W.Frag} {W : Wd} {H : Hp} {S : Sto} (w : WS K W H S) (w0 : World) : WS K ⟨fun _ => False, 0, fun _ => 0, w0⟩ H [] :=
  ⟨rfl, fun i o e => by simp at e, fun i j h => absurd h (Nat.not_lt_zero _), fun i h => absurd h (Nat.not_lt_zero _), fun a f => f.elim, w.wf, w.wft⟩
section
variable {Y : Cx} {D t : Addr} {p : Addr × Obj} {sc : Scope} {xe xk : Str}
/-- isinstance(e, C) as a reading -/
def tIsP (a : Addr) (b : Bool) : TE := fun σ H Q => σ[0]? = some (some (.ref a)) ∧ Q (.bl b) H
theorem pe_isP {e : Expr} {C : Str} {b : Bool} {cvv : V} {cv : Value} (X : L2.ExcC Y.K D) (hp : p ∈ Y.pn) (hz : PX.Zown (.ref D) none t p.2) (h0 : Y.N[0]? = some xe) (hv : Vis Y.env.scope xe) (pe : plainName xe = true)
    (gi : Gl Y "isinstance") (mi : Y.mg "isinstance" = none) (e1 : isiN xe e = some C) (pc : ∀ q, PE Y (.Name C q) (tC cvv)) (hcv : ∀ u, RelV cvv u → u = cv) (hk : PySem.W.kitOne Y.K (.ref D) cv = some b) : PE Y e (tIsP p.1 b) ∧ notStar e = true ∧ ∀ whole, isTrue e Y.env whole = (do let v ← whole; standAt e.pos; holding [v] (truthy v)) := by
  unfold isiN at e1
  split at e1
  · rename_i f q1 y q2 C' q3 q4
    split at e1
    · rename_i hc
      obtain ⟨rfl, rfl⟩ := hc
      cases e1
      have pa : PA Y [.Name y q2, .Name C q3] (tCons (tVar 0) (tCons (tC cvv) tNil)) := pa_cons (pe_var h0 hv (plain3 pe).1 (plain3 pe).2.1) (pa_cons (pc q3) pa_nil (star_ok rfl)) (star_ok rfl)
      refine ⟨(pe_callB (call_isP X hp hz) gi mi (by decide +kernel) pa (by decide) (by decide) (star_ok rfl) rfl).wk fun σ H Q ⟨h1, q⟩ => ⟨.ref p.1, h1, cvv, cv, b, rfl, hcv, hk, q⟩, rfl, fun _ => rfl⟩
    · cases e1
  · cases e1
theorem pa_isP (X : L2.ExcC Y.K D) (hp : p ∈ Y.pn) (hz : PX.Zown (.ref D) none t p.2) (h0 : Y.N[0]? = some xe) (hv : Vis Y.env.scope xe) (pe : plainName xe = true) (hsc : Y.env.scope = sc)
    (gi : Gl Y "isinstance") (mi : Y.mg "isinstance" = none) : ∀ {es : List Expr} {cs : List Str} {bs : List Bool}, isiNs xe es = some cs → cs.all (fun C => glB sc C && plainName C) = true → KindOk Y.K Y.mg D cs bs → PA Y es (fun σ H Q => σ[0]? = some (some (.ref p.1)) ∧ Q (bs.map V.bl) H)
  | [], _, bs, h, _, kk => by
    cases h
    cases bs with
    | nil => exact pa_nil.wk fun σ H Q ⟨_, q⟩ => q
    | cons _ _ => exact False.elim kk
  | e :: es, _, bs, h, hg, kk => by
    have h2 : ((isiN xe e).bind fun C => (isiNs xe es).map (C :: ·)) = some _ := h
    obtain ⟨C, e1, e2⟩ := Option.bind_eq_some_iff.mp h2
    obtain ⟨cs, e3, rfl⟩ := Option.map_eq_some_iff.mp e2
    cases bs with
    | nil => exact False.elim kk
    | cons b bs =>
      obtain ⟨⟨Ca, m1, k1⟩, kk⟩ := kk
      rw [List.all_cons, Bool.and_eq_true, Bool.and_eq_true] at hg
      obtain ⟨⟨g1, g2⟩, g3⟩ := hg
      obtain ⟨h1, hn, _⟩ := pe_isP X hp hz h0 hv pe gi mi e1 (fun q => pe_glob (v := .ref Ca) (glOk g1 hsc) m1 rfl (plain3 g2).1) (fun u r => r) k1
      have ih := pa_isP X hp hz h0 hv pe hsc gi mi e3 g3 kk
      exact (pa_cons h1 ih (star_ok hn)).wk fun σ H Q ⟨s1, q⟩ => ⟨s1, s1, q⟩
theorem pa_wrd : ∀ {es : List Expr} {ws : List Str}, wrdNs es = some ws → PA Y es (fun _ H Q => Q (ws.map V.str) H)
  | [], _, h => by
    cases h
    exact pa_nil.wk fun σ H Q q => q
  | e :: es, _, h => by
    have h2 : ((wrdN e).bind fun C => (wrdNs es).map (C :: ·)) = some _ := h
    obtain ⟨C, e1, e2⟩ := Option.bind_eq_some_iff.mp h2
    obtain ⟨ws, e3, rfl⟩ := Option.map_eq_some_iff.mp e2
    unfold wrdN at e1
    split at e1
    · cases e1
      exact (pa_cons pe_str (pa_wrd e3) (star_ok rfl)).wk fun σ H Q q => q
    · cases e1
theorem flat_bl (bs : List Bool) : (bs.map V.bl).all flatV = true := by
  rw [List.all_map, List.all_eq_true]
  intro b _
  rfl
theorem count_bl : ∀ bs : List Bool, (bs.map V.bl).countP (fun z => eqV z (.bl true)) = bs.countP id
  | [] => rfl
  | b :: bs => by
    rw [List.map_cons, List.countP_cons, List.countP_cons, count_bl bs]
    cases b <;> rfl
theorem cls_walk {mg : Str → Option Value} {body : List Stmt} {scope : Scope} {F0 : ClsF} {bs : List Bool} {j : Nat} {wd : Str} {W : Wd} {S0 : Sto} {H : Hp} {Q : VK} (yN : Y.N = [xe, F0.kind]) (yS : Y.env.scope = scope) (yM : Y.mg = mg) (yP : p ∈ Y.pn) {ot : Obj} (yT : (t, ot) ∈ Y.pn) (et : EmptyT ot) (yU : Y.A.units + 65 < cLine)
    (hz : PX.Zown (.ref D) none t p.2) (fm : clsForm xe body = some F0) (nd0 : [xe, F0.kind].Nodup) (lk : isLocB scope F0.kind = true) (le : isLocB scope xe = true) (pe : plainName xe = true) (pk : plainName F0.kind = true)
    (gi : glB scope "isinstance" = true) (mi : mg "isinstance" = none) (gv : glB scope "ValueError" = true) (mv : mg "ValueError" = none) (gc : F0.cs.all (fun C => glB scope C && plainName C) = true) (X : L2.ExcC Y.K D) (kk : KindOk Y.K mg D F0.cs bs) (kv : PySem.W.kitOne Y.K (.ref D) (.type "ValueError") = some true) (ks : PySem.W.findIn Y.K (.ref D) "__str__" = some (some (.builtin "BaseException.__str__"))) (gs : F0.str = true → glB scope "str" = true ∧ mg "str" = none)
    (one : bs.countP id = 1) (hj : bs[j]? = some true) (hno : ∀ m z, m < j → bs[m]? = some z → z = false) (hw : F0.ws[j]? = some wd) (few : F0.cs.length ≤ 1000 ∧ F0.ws.length ≤ 1000 ∧ bs.length ≤ 1000)
    (ws : WS Y.K W H S0) (wish : Fin Y.K W H S0 (F0.res wd) Q) :
    ∃ t, PSs Y body t ∧ t { nx := fun _ H' => Q .non H', rt := Q } (L2.start [xe, F0.kind] [.ref p.1]) H := by
  have yF : ∀ y, Y.env.scope.names.lookup y = some .local → (Y.fn y = true ∨ Y.env.scope.names.lookup y = some .local) := fun y h => .inr h
  have lku : ∀ y, isLocB scope y = true → Y.env.scope.names.lookup y = some .local := fun y h => by
    rw [yS]
    unfold isLocB kindB at h
    split at h
    · assumption
    · cases h
  -- the body's reading
  have fm2 := fm
  unfold clsForm at fm
  split at fm
  · rename_i xk p1 es p2 p3 k1 p4 m1 a1 j1 p5 c1 j2 p6 p7 i0 p8 p9 w0 j3 p10 p11 p12 wes p13 k2 p14 m2 a2 j4 p15 c2 p16 p17
    split at fm
    · rename_i hc
      obtain ⟨rfl, rfl, rfl, rfl, ln1, ln2, hi0⟩ := hc
      obtain ⟨cs, hes, hws⟩ := Option.bind_eq_some_iff.mp fm
      obtain ⟨wl, hwl, rfl⟩ := Option.map_eq_some_iff.mp hws
      simp only at nd0 lk pk kk hw gc few yN ⊢
      have nd : Y.N.Nodup := by rw [yN]; exact nd0
      have n0 : Y.N[0]? = some xe := by rw [yN]; rfl
      have n1 : Y.N[1]? = some k2 := by rw [yN]; rfl
      have v0 : Vis Y.env.scope xe := .inl (lku xe le)
      have v1 : Vis Y.env.scope k2 := .inl (lku k2 lk)
      have hz' : L2.ExcC Y.K D := X
      have gl : ∀ {y}, glB scope y = true → Gl Y y := fun h => glOk h yS
      have A1 := pa_isP (Y := Y) hz' yP hz n0 v0 pe yS (gl gi) (by rw [yM]; exact mi) hes gc (by rw [yM]; exact kk)
      have s1' := ps_set (pos' := p1) nd n1 (Or.inl (lku k2 lk)) (pe_lst (pos := p2) A1) (by rfl) (yF k2 (lku k2 lk)) (pos := p3)
      have PC : PE Y (.Call (.Attribute (.Name k2 p4) "count" a1) [.Constant (.bool true) j1 p5] [] c1) (tBM Y.K "list" (rCountV Y.K) (tVar 1) (tCons (tC (.bl true)) tNil)) :=
        pe_bm PySem.F.plainAttrs_list PySem.F.slot_list_count PySem.F.type_list_count mt_countV (pe_var n1 v1 (plain3 pk).1 (plain3 pk).2.1) (pa_cons pe_bl pa_nil rfl) rfl rfl ln1 rfl rfl
      have PI_ : PE Y (.Call (.Attribute (.Name k2 p14) "index" a2) [.Constant (.bool true) j4 p15] [] c2) (tBM Y.K "list" (rIndex Y.K) (tVar 1) (tCons (tC (.bl true)) tNil)) :=
        pe_bm PySem.F.plainAttrs_list PySem.F.slot_list_index PySem.F.type_list_index mt_index (pe_var n1 v1 (plain3 pk).1 (plain3 pk).2.1) (pa_cons pe_bl pa_nil rfl) rfl rfl ln2 rfl rfl
      have T1 := pt_cmpR (pos := p7) (op_cmp (X := Y) yU .NotEq) PC (pe_int (i := 1) (j := j2) (pos := p6)) rfl
      obtain ⟨PV, _, tV⟩ := pe_isP (Y := Y) (b := true) (cvv := .ty "ValueError") (cv := .type "ValueError") hz' yP hz n0 v0 pe (gl gi) (by rw [yM]; exact mi) hi0
        (fun q => pe_bltn (v := .ty "ValueError") (gl gv) (by rw [yM]; exact mv) (by decide +kernel) rfl (by decide) (by decide)) (fun u r => r) kv
      have T2 := pt_not (pos := p8) (pt_truth PV tV)
      have TT_ := (pw_or (pos := p9) T1 (pw_or1 T2)).pt
      have s2' := ps_if (pos := p12) TT_ (pss_cons (ps_ret (pos := p11) (pe_str (x := w0) (j := j3) (pos := p10))) pss_nil) pss_nil
      have s3' := ps_ret (pos := p17) (pe_ix (pos := p16) ix_list (pe_lst (pos := p13) (pa_wrd hwl)) PI_ (by intro o v; rfl))
      have whole := pss_cons s1' (pss_cons s2' (pss_cons s3' pss_nil))
      have lenB : bs.length ≤ 1000 := few.2.2
      refine ⟨_, whole, ?_⟩
      refine ⟨rfl, by rw [List.length_map, size_line]; unfold LINE; omega, fun q hq => ?_⟩
      have w1 : WS Y.K W (upd H q (.lst (bs.map V.bl))) S0 := ws_new ws hq _ W rfl rfl rfl (fun _ h => h) (fun _ h => .inl h) (fun xs e => by cases e; rw [List.length_map, size_line]; unfold LINE; omega) (fun xs e => by cases e) (fun _ _ e => by cases e)
      have l1 := le_new (K := Y.K) ws hq (.lst (bs.map V.bl)) W rfl rfl rfl (fun _ h => h) (fun _ h => .inl h)
      have σ1 : ((L2.start [xe, k2] [.ref p.1]).set 1 (some (.ref q)))[1]? = some (some (.ref q)) := rfl
      have σ0 : ((L2.start [xe, k2] [.ref p.1]).set 1 (some (.ref q)))[0]? = some (some (.ref p.1)) := rfl
      refine ⟨.ref q, σ1, .inl ⟨rfl, _, SqL.of upd_same⟩, q, _, .bl true, rfl, rfl, SqL.of upd_same, rfl, flat_bl bs, ?_⟩
      rw [count_bl, one]
      refine ⟨⟨fun _ => False, 0, fun _ => 0, Y.w⟩, [], .int 1, .int 1, false, rfl, ws_empty w1 Y.w, .int _, .int _, by simp [cmpD, Lw.D.eqv, Lw.D.plain, Lw.D.py, SeqAt.shaped, PyData.canLay0, PyData.depth, PyData.eqv], false, rfl, ?_⟩
      refine iteF ⟨σ0, true, rfl, iteF ?_⟩
      refine ⟨by rw [List.length_map, size_line]; unfold LINE; omega, fun q2 hq2 => ?_⟩
      have l2 := le_new (K := Y.K) w1 hq2 (.lst (wl.map V.str)) W rfl rfl rfl (fun _ h => h) (fun _ h => .inl h)
      have w2 : WS Y.K W (upd (upd H q (.lst (bs.map V.bl))) q2 (.lst (wl.map V.str))) S0 := ws_new w1 hq2 _ W rfl rfl rfl (fun _ h => h) (fun _ h => .inl h) (fun xs e => by cases e; rw [List.length_map, size_line]; unfold LINE; omega) (fun xs e => by cases e) (fun _ _ e => by cases e)
      have ne : q ≠ q2 := fun z => by rw [← z, upd_same] at hq2; cases hq2
      have hq' : SqL Y.K (upd (upd H q (.lst (bs.map V.bl))) q2 (.lst (wl.map V.str))) q (bs.map V.bl) := SqL.of (by rw [upd_ne ne, upd_same])
      refine ⟨.ref q, σ1, .inl ⟨rfl, _, hq'⟩, q, _, .bl true, j, .bl true, rfl, rfl, hq', rfl, flat_bl bs, by rw [List.getElem?_map, hj]; rfl, rfl, fun m z' hm he => ?_, ?_⟩
      · rw [List.getElem?_map] at he
        obtain ⟨b, hb, rfl⟩ := Option.map_eq_some_iff.mp he
        rw [hno m b hm hb]
        rfl
      · refine ⟨q2, _, (j : Int), .str wd, rfl, rfl, SqL.of upd_same, ?_, wish W _ (l1.trans l2) w2 _ (.str wd)⟩
        have hj2 : j < wl.length := (List.getElem?_eq_some_iff.mp hw).1
        have hw2 : (wl.map V.str)[j]? = some (.str wd) := by rw [List.getElem?_map, hw]; rfl
        simp [atI, ixN, hj2]
        exact (List.getElem?_eq_some_iff.mp hw).2
    · cases fm
  · rename_i xk p1 es p2 p3 k1 p4 m1 a1 j1 p5 c1 j2 p6 p7 i0 p8 sf p20 y p21 p22 z5 j5 p23 p24 p9 g1 j6 p25 w0 j3 p10 nn1 p26 p11 p12 g2 j7 p27 wes p13 k2 p14 m2 a2 j4 p15 c2 p16 nn2 p28 p17
    split at fm
    · rename_i hc
      obtain ⟨rfl, rfl, rfl, rfl, ln1, ln2, hi0, rfl, hy, rfl⟩ := hc
      obtain ⟨cs, hes, hws⟩ := Option.bind_eq_some_iff.mp fm
      obtain ⟨wl, hwl, rfl⟩ := Option.map_eq_some_iff.mp hws
      simp only at nd0 lk pk kk hw gc few yN ⊢
      have nd : Y.N.Nodup := by rw [yN]; exact nd0
      have n0 : Y.N[0]? = some xe := by rw [yN]; rfl
      have n1 : Y.N[1]? = some k2 := by rw [yN]; rfl
      have v0 : Vis Y.env.scope xe := .inl (lku xe le)
      have v1 : Vis Y.env.scope k2 := .inl (lku k2 lk)
      have hz' : L2.ExcC Y.K D := X
      have gl : ∀ {y}, glB scope y = true → Gl Y y := fun h => glOk h yS
      have A1 := pa_isP (Y := Y) hz' yP hz n0 v0 pe yS (gl gi) (by rw [yM]; exact mi) hes gc (by rw [yM]; exact kk)
      have s1' := ps_set (pos' := p1) nd n1 (Or.inl (lku k2 lk)) (pe_lst (pos := p2) A1) (by rfl) (yF k2 (lku k2 lk)) (pos := p3)
      have PC : PE Y (.Call (.Attribute (.Name k2 p4) "count" a1) [.Constant (.bool true) j1 p5] [] c1) (tBM Y.K "list" (rCountV Y.K) (tVar 1) (tCons (tC (.bl true)) tNil)) :=
        pe_bm PySem.F.plainAttrs_list PySem.F.slot_list_count PySem.F.type_list_count mt_countV (pe_var n1 v1 (plain3 pk).1 (plain3 pk).2.1) (pa_cons pe_bl pa_nil rfl) rfl rfl ln1 rfl rfl
      have PI_ : PE Y (.Call (.Attribute (.Name k2 p14) "index" a2) [.Constant (.bool true) j4 p15] [] c2) (tBM Y.K "list" (rIndex Y.K) (tVar 1) (tCons (tC (.bl true)) tNil)) :=
        pe_bm PySem.F.plainAttrs_list PySem.F.slot_list_index PySem.F.type_list_index mt_index (pe_var n1 v1 (plain3 pk).1 (plain3 pk).2.1) (pa_cons pe_bl pa_nil rfl) rfl rfl ln2 rfl rfl
      have T1 := pt_cmpR (pos := p7) (op_cmp (X := Y) yU .NotEq) PC (pe_int (i := 1) (j := j2) (pos := p6)) rfl
      obtain ⟨PV, _, tV⟩ := pe_isP (Y := Y) (b := true) (cvv := .ty "ValueError") (cv := .type "ValueError") hz' yP hz n0 v0 pe (gl gi) (by rw [yM]; exact mi) hi0
        (fun q => pe_bltn (v := .ty "ValueError") (gl gv) (by rw [yM]; exact mv) (by decide +kernel) rfl (by decide) (by decide)) (fun u r => r) kv
      have T2 := pt_not (pos := p8) (pt_truth PV tV)
      obtain ⟨gs1, gs2⟩ := gs rfl
      have n0y : Y.N[0]? = some y := by rw [hy]; exact n0
      have v0y : Vis Y.env.scope y := by rw [hy]; exact v0
      have PS0 := pe_callTy (p := p20) (pos := p22) (call_strP X ks yP yT et hz (by omega)) (gl gs1) (by rw [yM]; exact gs2) (by decide +kernel) (pa_cons (pe_var (pos := p21) n0y v0y (by rw [hy]; exact (plain3 pe).1) (by rw [hy]; exact (plain3 pe).2.1)) pa_nil (star_ok rfl)) (by decide) (by decide) (star_ok rfl) rfl
      have T3 := pt_cmpR (pos := p24) (op_cmp (X := Y) yU .NotEq) PS0 (pe_str (x := "") (j := j5) (pos := p23)) rfl
      have TT_ := (pw_or (pos := p9) T1 (pw_or T2 (pw_or1 T3))).pt
      have s2' := ps_if (pos := p12) TT_ (pss_cons (ps_ret (pos := p11) (pe_tup (x1 := nn1) (pos := p26) (pa_cons (pe_str (x := g1) (j := j6) (pos := p25)) (pa_cons (pe_str (x := w0) (j := j3) (pos := p10)) pa_nil (star_ok rfl)) (star_ok rfl)))) pss_nil) pss_nil
      have s3' := ps_ret (pos := p17) (pe_tup (x1 := nn2) (pos := p28) (pa_cons (pe_str (x := g2) (j := j7) (pos := p27)) (pa_cons (pe_ix (pos := p16) ix_list (pe_lst (pos := p13) (pa_wrd hwl)) PI_ (by intro o v; rfl)) pa_nil (star_ok rfl)) (star_ok rfl)))
      have whole := pss_cons s1' (pss_cons s2' (pss_cons s3' pss_nil))
      have lenB : bs.length ≤ 1000 := few.2.2
      refine ⟨_, whole, ?_⟩
      refine ⟨rfl, by rw [List.length_map, size_line]; unfold LINE; omega, fun q hq => ?_⟩
      have w1 : WS Y.K W (upd H q (.lst (bs.map V.bl))) S0 := ws_new ws hq _ W rfl rfl rfl (fun _ h => h) (fun _ h => .inl h) (fun xs e => by cases e; rw [List.length_map, size_line]; unfold LINE; omega) (fun xs e => by cases e) (fun _ _ e => by cases e)
      have l1 := le_new (K := Y.K) ws hq (.lst (bs.map V.bl)) W rfl rfl rfl (fun _ h => h) (fun _ h => .inl h)
      have σ1 : ((L2.start [xe, k2] [.ref p.1]).set 1 (some (.ref q)))[1]? = some (some (.ref q)) := rfl
      have σ0 : ((L2.start [xe, k2] [.ref p.1]).set 1 (some (.ref q)))[0]? = some (some (.ref p.1)) := rfl
      refine ⟨.ref q, σ1, .inl ⟨rfl, _, SqL.of upd_same⟩, q, _, .bl true, rfl, rfl, SqL.of upd_same, rfl, flat_bl bs, ?_⟩
      rw [count_bl, one]
      refine ⟨⟨fun _ => False, 0, fun _ => 0, Y.w⟩, [], .int 1, .int 1, false, rfl, ws_empty w1 Y.w, .int _, .int _, by simp [cmpD, Lw.D.eqv, Lw.D.plain, Lw.D.py, SeqAt.shaped, PyData.canLay0, PyData.depth, PyData.eqv], false, rfl, ?_⟩
      refine iteF ⟨σ0, true, rfl, iteF ?_⟩
      refine ⟨.ref p.1, σ0, rfl, ?_⟩
      refine ⟨⟨fun _ => False, 0, fun _ => 0, Y.w⟩, [], .str "", .str "", false, rfl, ws_empty w1 Y.w, .str _, .str _, by kernel_rfl, false, rfl, iteF ?_⟩
      refine ⟨by rw [List.length_map, size_line]; unfold LINE; omega, fun q2 hq2 => ?_⟩
      have l2 := le_new (K := Y.K) w1 hq2 (.lst (wl.map V.str)) W rfl rfl rfl (fun _ h => h) (fun _ h => .inl h)
      have w2 : WS Y.K W (upd (upd H q (.lst (bs.map V.bl))) q2 (.lst (wl.map V.str))) S0 := ws_new w1 hq2 _ W rfl rfl rfl (fun _ h => h) (fun _ h => .inl h) (fun xs e => by cases e; rw [List.length_map, size_line]; unfold LINE; omega) (fun xs e => by cases e) (fun _ _ e => by cases e)
      have ne : q ≠ q2 := fun z => by rw [← z, upd_same] at hq2; cases hq2
      have hq' : SqL Y.K (upd (upd H q (.lst (bs.map V.bl))) q2 (.lst (wl.map V.str))) q (bs.map V.bl) := SqL.of (by rw [upd_ne ne, upd_same])
      refine ⟨.ref q, σ1, .inl ⟨rfl, _, hq'⟩, q, _, .bl true, j, .bl true, rfl, rfl, hq', rfl, flat_bl bs, by rw [List.getElem?_map, hj]; rfl, rfl, fun m z' hm he => ?_, ?_⟩
      · rw [List.getElem?_map] at he
        obtain ⟨b, hb, rfl⟩ := Option.map_eq_some_iff.mp he
        rw [hno m b hm hb]
        rfl
      · refine ⟨q2, _, (j : Int), .str wd, rfl, rfl, SqL.of upd_same, ?_, And.intro (by rw [sizeLine_eq]; simp) fun t3 ht3 => Fin.tup (S := S0) w2 (Fin.le (l1.trans l2) wish) (.cons (.str _) (.cons (.str _) .nil)) (by rw [sizeLine_eq]; simp) ht3⟩
        have hj2 : j < wl.length := (List.getElem?_eq_some_iff.mp hw).1
        have hw2 : (wl.map V.str)[j]? = some (.str wd) := by rw [List.getElem?_map, hw]; rfl
        simp [atI, ixN, hj2]
        exact (List.getElem?_eq_some_iff.mp hw).2
    · cases fm
  · rename_i xk p1 es p2 p3 k1 p4 m1 a1 j1 p5 c1 j2 p6 p7 i0 p8 sf p20 y p21 p22 z5 j5 p23 p24 p9 w0 j3 p10 p11 p12 wes p13 k2 p14 m2 a2 j4 p15 c2 p16 p17
    split at fm
    · rename_i hc
      obtain ⟨rfl, rfl, rfl, rfl, ln1, ln2, hi0, rfl, hy, rfl⟩ := hc
      obtain ⟨cs, hes, hws⟩ := Option.bind_eq_some_iff.mp fm
      obtain ⟨wl, hwl, rfl⟩ := Option.map_eq_some_iff.mp hws
      simp only at nd0 lk pk kk hw gc few yN ⊢
      have nd : Y.N.Nodup := by rw [yN]; exact nd0
      have n0 : Y.N[0]? = some xe := by rw [yN]; rfl
      have n1 : Y.N[1]? = some k2 := by rw [yN]; rfl
      have v0 : Vis Y.env.scope xe := .inl (lku xe le)
      have v1 : Vis Y.env.scope k2 := .inl (lku k2 lk)
      have hz' : L2.ExcC Y.K D := X
      have gl : ∀ {y}, glB scope y = true → Gl Y y := fun h => glOk h yS
      have A1 := pa_isP (Y := Y) hz' yP hz n0 v0 pe yS (gl gi) (by rw [yM]; exact mi) hes gc (by rw [yM]; exact kk)
      have s1' := ps_set (pos' := p1) nd n1 (Or.inl (lku k2 lk)) (pe_lst (pos := p2) A1) (by rfl) (yF k2 (lku k2 lk)) (pos := p3)
      have PC : PE Y (.Call (.Attribute (.Name k2 p4) "count" a1) [.Constant (.bool true) j1 p5] [] c1) (tBM Y.K "list" (rCountV Y.K) (tVar 1) (tCons (tC (.bl true)) tNil)) :=
        pe_bm PySem.F.plainAttrs_list PySem.F.slot_list_count PySem.F.type_list_count mt_countV (pe_var n1 v1 (plain3 pk).1 (plain3 pk).2.1) (pa_cons pe_bl pa_nil rfl) rfl rfl ln1 rfl rfl
      have PI_ : PE Y (.Call (.Attribute (.Name k2 p14) "index" a2) [.Constant (.bool true) j4 p15] [] c2) (tBM Y.K "list" (rIndex Y.K) (tVar 1) (tCons (tC (.bl true)) tNil)) :=
        pe_bm PySem.F.plainAttrs_list PySem.F.slot_list_index PySem.F.type_list_index mt_index (pe_var n1 v1 (plain3 pk).1 (plain3 pk).2.1) (pa_cons pe_bl pa_nil rfl) rfl rfl ln2 rfl rfl
      have T1 := pt_cmpR (pos := p7) (op_cmp (X := Y) yU .NotEq) PC (pe_int (i := 1) (j := j2) (pos := p6)) rfl
      obtain ⟨PV, _, tV⟩ := pe_isP (Y := Y) (b := true) (cvv := .ty "ValueError") (cv := .type "ValueError") hz' yP hz n0 v0 pe (gl gi) (by rw [yM]; exact mi) hi0
        (fun q => pe_bltn (v := .ty "ValueError") (gl gv) (by rw [yM]; exact mv) (by decide +kernel) rfl (by decide) (by decide)) (fun u r => r) kv
      have T2 := pt_not (pos := p8) (pt_truth PV tV)
      obtain ⟨gs1, gs2⟩ := gs rfl
      have n0y : Y.N[0]? = some y := by rw [hy]; exact n0
      have v0y : Vis Y.env.scope y := by rw [hy]; exact v0
      have PS0 := pe_callTy (p := p20) (pos := p22) (call_strP X ks yP yT et hz (by omega)) (gl gs1) (by rw [yM]; exact gs2) (by decide +kernel) (pa_cons (pe_var (pos := p21) n0y v0y (by rw [hy]; exact (plain3 pe).1) (by rw [hy]; exact (plain3 pe).2.1)) pa_nil (star_ok rfl)) (by decide) (by decide) (star_ok rfl) rfl
      have T3 := pt_cmpR (pos := p24) (op_cmp (X := Y) yU .NotEq) PS0 (pe_str (x := "") (j := j5) (pos := p23)) rfl
      have TT_ := (pw_or (pos := p9) T1 (pw_or T2 (pw_or1 T3))).pt
      have s2' := ps_if (pos := p12) TT_ (pss_cons (ps_ret (pos := p11) (pe_str (x := w0) (j := j3) (pos := p10))) pss_nil) pss_nil
      have s3' := ps_ret (pos := p17) (pe_ix (pos := p16) ix_list (pe_lst (pos := p13) (pa_wrd hwl)) PI_ (by intro o v; rfl))
      have whole := pss_cons s1' (pss_cons s2' (pss_cons s3' pss_nil))
      have lenB : bs.length ≤ 1000 := few.2.2
      refine ⟨_, whole, ?_⟩
      refine ⟨rfl, by rw [List.length_map, size_line]; unfold LINE; omega, fun q hq => ?_⟩
      have w1 : WS Y.K W (upd H q (.lst (bs.map V.bl))) S0 := ws_new ws hq _ W rfl rfl rfl (fun _ h => h) (fun _ h => .inl h) (fun xs e => by cases e; rw [List.length_map, size_line]; unfold LINE; omega) (fun xs e => by cases e) (fun _ _ e => by cases e)
      have l1 := le_new (K := Y.K) ws hq (.lst (bs.map V.bl)) W rfl rfl rfl (fun _ h => h) (fun _ h => .inl h)
      have σ1 : ((L2.start [xe, k2] [.ref p.1]).set 1 (some (.ref q)))[1]? = some (some (.ref q)) := rfl
      have σ0 : ((L2.start [xe, k2] [.ref p.1]).set 1 (some (.ref q)))[0]? = some (some (.ref p.1)) := rfl
      refine ⟨.ref q, σ1, .inl ⟨rfl, _, SqL.of upd_same⟩, q, _, .bl true, rfl, rfl, SqL.of upd_same, rfl, flat_bl bs, ?_⟩
      rw [count_bl, one]
      refine ⟨⟨fun _ => False, 0, fun _ => 0, Y.w⟩, [], .int 1, .int 1, false, rfl, ws_empty w1 Y.w, .int _, .int _, by simp [cmpD, Lw.D.eqv, Lw.D.plain, Lw.D.py, SeqAt.shaped, PyData.canLay0, PyData.depth, PyData.eqv], false, rfl, ?_⟩
      refine iteF ⟨σ0, true, rfl, iteF ?_⟩
      refine ⟨.ref p.1, σ0, rfl, ?_⟩
      refine ⟨⟨fun _ => False, 0, fun _ => 0, Y.w⟩, [], .str "", .str "", false, rfl, ws_empty w1 Y.w, .str _, .str _, by kernel_rfl, false, rfl, iteF ?_⟩
      refine ⟨by rw [List.length_map, size_line]; unfold LINE; omega, fun q2 hq2 => ?_⟩
      have l2 := le_new (K := Y.K) w1 hq2 (.lst (wl.map V.str)) W rfl rfl rfl (fun _ h => h) (fun _ h => .inl h)
      have w2 : WS Y.K W (upd (upd H q (.lst (bs.map V.bl))) q2 (.lst (wl.map V.str))) S0 := ws_new w1 hq2 _ W rfl rfl rfl (fun _ h => h) (fun _ h => .inl h) (fun xs e => by cases e; rw [List.length_map, size_line]; unfold LINE; omega) (fun xs e => by cases e) (fun _ _ e => by cases e)
      have ne : q ≠ q2 := fun z => by rw [← z, upd_same] at hq2; cases hq2
      have hq' : SqL Y.K (upd (upd H q (.lst (bs.map V.bl))) q2 (.lst (wl.map V.str))) q (bs.map V.bl) := SqL.of (by rw [upd_ne ne, upd_same])
      refine ⟨.ref q, σ1, .inl ⟨rfl, _, hq'⟩, q, _, .bl true, j, .bl true, rfl, rfl, hq', rfl, flat_bl bs, by rw [List.getElem?_map, hj]; rfl, rfl, fun m z' hm he => ?_, ?_⟩
      · rw [List.getElem?_map] at he
        obtain ⟨b, hb, rfl⟩ := Option.map_eq_some_iff.mp he
        rw [hno m b hm hb]
        rfl
      · refine ⟨q2, _, (j : Int), .str wd, rfl, rfl, SqL.of upd_same, ?_, wish W _ (l1.trans l2) w2 _ (.str wd)⟩
        have hj2 : j < wl.length := (List.getElem?_eq_some_iff.mp hw).1
        have hw2 : (wl.map V.str)[j]? = some (.str wd) := by rw [List.getElem?_map, hw]; rfl
        simp [atI, ixN, hj2]
        exact (List.getElem?_eq_some_iff.mp hw).2
    · cases fm
  · cases fm
/-- a def of this form keeps its promise -/
theorem fn_cls {P : Program} {w : World} {K : PySem.W.Frag} {mg : Str → Option Value} {base : Heap} {f : Addr} {dat : FuncData} {x qual : Str} {params : Arguments} {body : List Stmt} {scope : Scope} {F0 : ClsF} {bs : List Bool} {j : Nat} {wd : Str}
    (F : FunD K x qual params body scope [] [] f dat) (fm : clsForm xe body = some F0) (S : FnScope [xe, F0.kind] [xe] scope) (lk : isLocB scope F0.kind = true) (le : isLocB scope xe = true) (pe : plainName xe = true) (pk : plainName F0.kind = true)
    (gi : glB scope "isinstance" = true) (mi : mg "isinstance" = none) (gv : glB scope "ValueError" = true) (mv : mg "ValueError" = none) (gc : F0.cs.all (fun C => glB scope C && plainName C) = true) (X : L2.ExcC K D) (kk : KindOk K mg D F0.cs bs) (kv : PySem.W.kitOne K (.ref D) (.type "ValueError") = some true) (ks : PySem.W.findIn K (.ref D) "__str__" = some (some (.builtin "BaseException.__str__"))) (gs : F0.str = true → glB scope "str" = true ∧ mg "str" = none)
    (one : bs.countP id = 1) (hj : bs[j]? = some true) (hno : ∀ m z, m < j → bs[m]? = some z → z = false) (hw : F0.ws[j]? = some wd) (few : F0.cs.length ≤ 1000 ∧ F0.ws.length ≤ 1000 ∧ bs.length ≤ 1000) : FnC P w K mg base f dat xe D (F0.res wd) := by
  obtain ⟨oc, od, dV, kV, doc, pm, an, cdv, ct, osl, rfl, at_, isC, _, _⟩ := F.ex
  constructor
  intro A outer s H args p pq W S0 Q Ex hd hu pin pinq hz et e0 bound ws wish
  have inK : K.In s.heap := e0.mod.kin.keeps fun b o q => (e0.bs b o q).1
  have noL : s.heap.NoLimit := e0.mod.nolimit.keeps fun b o q => (e0.bs b o q).1
  refine codeAny_call_function hd (inK _ _ at_) rfl S.co S.gen rfl (PySem.W.codeRec_of inK isC) (bound _ _ _ _ ?_)
  refine wpAny_newFunctionEnv_cells S.kind ?_ ?_
  · rintro ⟨n, v⟩ hn
    have hn2 : n = xe := by
      rw [List.mem_singleton] at hn
      cases hn; rfl
    cases S.par n (by rw [hn2]; exact List.mem_singleton.mpr rfl) with
    | inl q => exact .inl q
    | inr q => exact .inr ⟨q, PySem.W.cellsFrom_some _ _ _ (.inl q)⟩
  · rintro env rfl s1 laid
    refine ⟨noL.keeps laid.toInCall.keep, codeAny_func ?_⟩
    have I0 := L2H.inv_startH (CX := CXA P w) (E := Ex) (qual := qual) (f := f) (cd := cdv) (A := A) (us := [.ref p.1]) (vs := [.ref p.1]) S pin e0 rfl (.cons rfl .nil) laid
    have hlt := Heap.lt_size pinq.get
    have I1 := inv_more (t := pq.1) (ot := pq.2) I0 (laid.toInCall.keep _ _ pinq.get) pinq.free (fun z => absurd hlt (by rw [z]; exact Nat.lt_irrefl _)) pinq.nofs pinq.nocell
    have I2 := I1.toTry (L2H.cxH (CXA P w) P w K mg base [xe, F0.kind] qual scope f cdv A outer s H Ex p).xe
    obtain ⟨t, ht, hq⟩ := cls_walk (Y := (L2H.cxH (CXA P w) P w K mg base [xe, F0.kind] qual scope f cdv A outer s H Ex p).tr ([p] ++ [pq]) (L2H.cxH (CXA P w) P w K mg base [xe, F0.kind] qual scope f cdv A outer s H Ex p).xe) (Q := Q) (W := W) (S0 := S0) (H := H) rfl rfl rfl (List.mem_append_left _ (List.mem_singleton.mpr rfl)) (ot := pq.2) (List.mem_append_right _ (List.mem_singleton.mpr rfl)) et (by show A.units + 3 + 65 < cLine; omega) hz fm S.nd lk le pe pk gi mi gv mv gc X kk kv ks gs one hj hno hw few ws wish
    refine wpAny_mono (ht.run [] s1 _ H _ I2 hq) ?_ fun _ _ z => z
    rintro fl s' hs
    cases fl with
    | ret u =>
      obtain ⟨v, _, H', J, rv, q⟩ := hs
      exact ⟨v, H', J.os, J.bare, J.base, J.hok, rv, q⟩
    | next =>
      obtain ⟨_, H', J, q⟩ := hs
      exact ⟨.non, H', J.os, J.bare, J.base, J.hok, rfl, q⟩
    | brk =>
      obtain ⟨_, _, _, q⟩ := hs
      exact q.elim
    | cont =>
      obtain ⟨_, _, _, q⟩ := hs
      exact q.elim
end
end Lw
set_option maxHeartbeats 2000000
/-! LwK: the evaluator is right for every def of a module. -/
namespace Lw
open PySem PySem.Spec PyProof.Rows L2

/-- a scope is that of a def with these slots -/
def scopeB (fd : Fd) : Bool := (match fd.sc.kind with | .function => true | _ => false) && !fd.sc.isCoroutine && !fd.sc.isGenerator && decide fd.N.Nodup && decide (fd.N.take fd.ps.length = fd.ps) &&
  fd.ps.all (locB fd.sc) && fd.sc.names.all fun y => (match y.2 with | .free => false | _ => true)
theorem scope_ok {fd : Fd} (h : scopeB fd = true) : FnScope fd.N fd.ps fd.sc := by
  unfold scopeB at h
  simp only [Bool.and_eq_true, Bool.not_eq_true', decide_eq_true_eq, List.all_eq_true] at h
  obtain ⟨⟨⟨⟨⟨⟨h1, h2⟩, h3⟩, h4⟩, h5⟩, h6⟩, h7⟩ := h
  refine ⟨?_, h2, h3, h4, h5, fun x hx => ?_, fun y hy z => ?_⟩
  · split at h1
    · assumption
    · cases h1
  · have q := h6 x hx
    unfold locB kindB at q
    split at q
    · exact .inl (by assumption)
    · exact .inr (by assumption)
    · cases q
  · have q := h7 y hy
    rw [z] at q
    cases q
/-- what the module gives -/
structure Mok (K : PySem.W.Frag) (mg : Str → Option Value) (g : G) (ev : Str → Value) : Prop where
  con : ∀ x d, g.con x = some d → ∃ u v, mg x = some u ∧ RelV v u ∧ ∀ W H, Rep K W H d v
  bis : ∀ x, g.bi x = true → mg x = none
  sub : ∀ c x b, g.sub c x = some b → PySem.W.exmOne K (ev c) (ev x) = some b
  cls : ∀ f c wd, g.cls f c = some wd → ∃ Ca fa fdat x, ev c = .ref Ca ∧ mg f = some (.ref fa) ∧ PySem.W.keepIn K (.ref fa) = true ∧ Binds K fdat [x] [] ∧ ∀ (P : Program) (w : World) (base : Heap), FnC P w K mg base fa fdat x Ca wd
  exc : ∀ x, g.exc x = true → ∃ Ca, mg x = some (.ref Ca) ∧ ev x = .ref Ca ∧ PySem.W.excIn K Ca He.veBase "ValueError.__new__" = true ∧ PySem.W.keepIn K (.ref Ca) = true ∧
    PySem.W.subIn K (.ref Ca) (.type "BaseException") = some true ∧ PySem.W.typeIn K (.ref Ca) = some (.type "type")
  fns : ∀ x fd, g.fn x = some fd → scopeB fd = true ∧ ∃ f fdat nm qn params, mg x = some (.ref f) ∧ FunD K nm qn params fd.body fd.sc [] [] f fdat ∧ Binds K fdat fd.ps [] ∧ ∀ (s : Shared) (us : List Value), us.length = fd.ps.length → BindsTo s fdat ⟨us, []⟩ (fd.ps.zip us)
  fld : ∀ x f, g.fld x f = true → Cls K (He.ga K x) ∧ NoAttr K (He.ga K x) f
  mts : ∀ x m q, g.mt x m = some q → g.fn q = none ∧ ∃ fd, g.mf q = some fd ∧ scopeB fd = true ∧ ∃ f fdat nm qn params, Cls K (He.ga K x) ∧ Meth K (He.ga K x) m f ∧ FunD K nm qn params fd.body fd.sc [] [] f fdat ∧ Binds K fdat fd.ps []
  mkr : ∀ x, g.cl x = true → mg x = some (.ref (He.ga K x)) ∧ PySem.W.makesIn K (He.ga K x) = true ∧ PySem.W.keepIn K (.ref (He.ga K x)) = true
/-- the def of a name, of a method -/
def lookF (g : G) (x : Str) : Option Fd := match g.fn x with
  | some fd => some fd
  | none => g.mf x
theorem callN_eq {g : G} {k : Nat} {x : Str} {fd : Fd} {ds : List D} {S : Sto} (h : lookF g x = some fd) : callN g (k + 1) x ds S = runFd g (callN g k) fd ds S := by
  unfold callN
  unfold lookF at h
  cases z : g.fn x with
  | some fd2 =>
    rw [z] at h
    cases h
    rfl
  | none =>
    rw [z] at h
    dsimp only at h
    show (match g.mf x with
      | some fd => runFd g (callN g k) fd ds S
      | none => .bad) = _
    rw [h]
section
variable {g : G} {ev : Str → Value} {P : Program} {w : World} {K : PySem.W.Frag} {mg : Str → Option Value} {base : Heap}
theorem callN_ar {x : Str} {fd : Fd} {ds : List D} {S : Sto} (h : lookF g x = some fd) : ∀ {k : Nat}, callN g k x ds S ≠ .bad → ds.length = fd.ps.length
  | 0, q => absurd rfl q
  | k + 1, q => by
    rw [callN_eq h] at q
    unfold runFd at q
    by_cases z : ds.length = fd.ps.length
    · exact z
    · rw [if_neg z] at q; exact absurd rfl q
theorem start_rel {N : List Str} {vs : List V} {ds : List D} {W : Wd} {H : Hp} {S : Sto} (ws : WS K W H S) (r : Reps K W H ds vs) : Rel K ⟨W, H⟩ W H (startE N ds) (L2.start N vs) S where
  ws := ws
  le := ws.refl
  len := by
    unfold startE L2.start
    rw [List.length_append, List.length_append, List.length_map, List.length_map, List.length_replicate, List.length_replicate, r.length]
  val := fun i d e => by
    unfold startE getSl at e
    unfold L2.start
    rw [List.getD_eq_getElem?_getD] at e
    by_cases hi : i < ds.length
    · rw [List.getElem?_append_left (by rw [List.length_map]; exact hi), List.getElem?_map, List.getElem?_eq_getElem hi] at e
      cases e
      obtain ⟨v, h1, h2⟩ := r.get (List.getElem?_eq_getElem hi)
      refine ⟨v, ?_, h2⟩
      rw [List.getElem?_append_left (by rw [List.length_map, ← r.length]; exact hi), List.getElem?_map, h1]
      rfl
    · rw [List.getElem?_append_right (by rw [List.length_map]; exact Nat.le_of_not_lt hi), List.getElem?_replicate] at e
      split at e <;> cases e
  own := fun i d e => by
    exfalso
    unfold startE getSl at e
    rw [List.getD_eq_getElem?_getD] at e
    by_cases hi : i < ds.length
    · rw [List.getElem?_append_left (by rw [List.length_map]; exact hi), List.getElem?_map, List.getElem?_eq_getElem hi] at e
      cases e
    · rw [List.getElem?_append_right (by rw [List.length_map]; exact Nat.le_of_not_lt hi), List.getElem?_replicate] at e
      split at e <;> cases e
  apart := fun i j d es a e => by
    exfalso
    unfold startE getSl at e
    rw [List.getD_eq_getElem?_getD] at e
    by_cases hi : i < ds.length
    · rw [List.getElem?_append_left (by rw [List.length_map]; exact hi), List.getElem?_map, List.getElem?_eq_getElem hi] at e
      cases e
    · rw [List.getElem?_append_right (by rw [List.length_map]; exact Nat.le_of_not_lt hi), List.getElem?_replicate] at e
      split at e <;> cases e
/-! ### a call's own things are forgotten -/
def Wd.cut (W : Wd) (n : Nat) : Wd := { W with n := n }
mutual
theorem Rep.under {W : Wd} {H : Hp} {n : Nat} : ∀ {d : D} {v : V}, Rep K W H d v → d.under n = true → Rep K (W.cut n) H d v
  | _, _, .non, _ => .non
  | _, _, .bl b, _ => .bl b
  | _, _, .int i, _ => .int i
  | _, _, .str x, _ => .str x
  | _, _, .tup h r, p => .tup h (Reps.under r (by simpa [D.under] using p))
  | _, _, .lst f h r, p => .lst f h (Reps.under r (by simpa [D.under] using p))
  | _, _, .ref _, p => .ref (W := W.cut n) (show _ < n by simpa [D.under] using p)
  | _, _, .dic f h, _ => .dic f h
  | _, _, .fn, _ => .fn
theorem Reps.under {W : Wd} {H : Hp} {n : Nat} : ∀ {ds : List D} {vs : List V}, Reps K W H ds vs → D.unders n ds = true → Reps K (W.cut n) H ds vs
  | _, _, .nil, _ => .nil
  | _, _, .cons r t, p => by
    have p2 : _ ∧ _ := Bool.and_eq_true_iff.mp (show (_ && _) = true from by simpa [D.unders] using p)
    exact .cons (Rep.under r p2.1) (Reps.under t p2.2)
end
theorem Ents.under {W : Wd} {H : Hp} {n : Nat} : ∀ {kvs : List (D × D)} {xs : List (NestedKey × Addr × Value)}, Paired (EntOk K W H) kvs xs → underP n kvs = true → Paired (EntOk K (W.cut n) H) kvs xs
  | _, _, .nil, _ => .nil
  | _, _, .cons r t, h => by
    unfold underP at h
    rw [Bool.and_eq_true, Bool.and_eq_true] at h
    obtain ⟨v, v1, v2⟩ := r.val
    exact .cons ⟨r.key, Rep.under r.rep h.1.1, v, v1, Rep.under v2 h.1.2⟩ (Ents.under t h.2)
theorem Flds.under {W : Wd} {H : Hp} {n : Nat} : ∀ {fs : List (Str × D)} {gs : List (Str × V)}, Paired (FldOk K W H) fs gs → underF n fs = true → Paired (FldOk K (W.cut n) H) fs gs
  | _, _, .nil, _ => .nil
  | _, _, .cons r t, h => by
    unfold underF at h
    rw [Bool.and_eq_true] at h
    exact .cons ⟨r.nm, Rep.under r.rep h.1⟩ (Flds.under t h.2)
theorem MOk.under {W : Wd} {H : Hp} {n : Nat} {a : Addr} {o : MO} (m : MOk K W H a o) (h : o.under n = true) : MOk K (W.cut n) H a o := by
  cases o with
  | lst ds => obtain ⟨vs, h1, h2⟩ := m; exact ⟨vs, h1, Reps.under h2 h⟩
  | dic kvs =>
    obtain ⟨o, es, ep, xs, h1, h2, h3, h4, h5, h6, h7, h8⟩ := m
    exact ⟨o, es, ep, xs, h1, h2, h3, h4, h5, h6, h7, Ents.under h8 h⟩
  | ins c fs =>
    obtain ⟨dx, gs, h1, h2⟩ := m
    exact ⟨dx, gs, h1, Flds.under h2 h⟩
theorem WS.cut {W : Wd} {H : Hp} {S : Sto} {n : Nat} (w : WS K W H S) (hn : n ≤ W.n) (h : (S.take n).all (MO.under n) = true) : WS K (W.cut n) H (S.take n) where
  len := by rw [List.length_take, w.len]; exact Nat.min_eq_left hn
  ob := fun i o e => by
    have hm : o ∈ S.take n := List.mem_of_getElem? e
    have hi : i < n := by
      have := (List.getElem?_eq_some_iff.mp e).1
      rw [List.length_take] at this
      omega
    rw [List.getElem?_take, if_pos hi] at e
    exact (w.ob i o e).under (List.all_eq_true.mp h o hm)
  inj := fun i j h1 h2 z => w.inj i j (Nat.lt_of_lt_of_le h1 hn) (Nat.lt_of_lt_of_le h2 hn) z
  nfz := fun i hi => w.nfz i (Nat.lt_of_lt_of_le hi hn)
  fz := w.fz
  wf := w.wf
  wft := w.wft
theorem Le.cut {W W' : Wd} {H H' : Hp} (l : Le W H W' H') : Le W H (W'.cut W.n) H' where
  keep := l.keep
  sto := l.sto
  n := Nat.le_refl _
  mu := l.mu
  fz := l.fz
  fz' := l.fz'
  new := fun i h1 h2 => absurd (Nat.lt_of_le_of_lt h1 h2) (Nat.lt_irrefl _)
  w := l.w
theorem gc_res {E : Ent} {X : Str → L2.St → Hp → Prop} {W : Wd} {H : Hp} {ρ : Ev} {σ : L2.St} {S : Sto} {r : R D} {Q : VK} (b : Bool) (w : WS K W H S) (h : Res K E X W H ρ σ (if b then gcR S.length r else r) fun d _ W' H' => ∀ v, Rep K W' H' d v → Q v H') :
    Res K E X W H ρ σ r fun d _ W' H' => ∀ v, Rep K W' H' d v → Q v H' := by
  cases b with
  | false => exact h
  | true =>
    rw [if_pos rfl, w.len] at h
    cases r with
    | bad => exact h
    | ok d S' =>
      have e : gcR W.n (.ok d S') = if d.under W.n && (S'.take W.n).all (MO.under W.n) then .ok d (S'.take W.n) else .ok d S' := rfl
      rw [e] at h
      by_cases hc : (d.under W.n && (S'.take W.n).all (MO.under W.n)) = true
      · rw [if_pos hc] at h
        rw [Bool.and_eq_true] at hc
        exact fun W' H' l w' v rv => h (W'.cut W.n) H' l.cut (w'.cut l.n hc.2) v (Rep.under rv hc.1)
      · rw [if_neg hc] at h
        exact h
    | err c S' =>
      have e : gcR W.n (.err c S') = if (S'.take W.n).all (MO.under W.n) then .err c (S'.take W.n) else .err c S' := rfl
      rw [e] at h
      by_cases hc : (S'.take W.n).all (MO.under W.n) = true
      · rw [if_pos hc] at h
        exact fun W' H' l w' => h (W'.cut W.n) H' l.cut (w'.cut l.n hc)
      · rw [if_neg hc] at h
        exact h
/-- a body's end is the call's end -/
theorem fin_ores {W : Wd} {H : Hp} {o : O} {Q : VK} {Ex : XK} (h : Res K ⟨W, H⟩ (fun c _ H' => Ex (ev c) none H') W H [] [] o.fin fun d _ W' H' => ∀ v, Rep K W' H' d v → Q v H') :
    ORes K ⟨W, H⟩ (fun c _ H' => Ex (ev c) none H') W H o { nx := fun _ H' => Q .non H', rt := Q } := by
  cases o with
  | nx ρ S => exact fun W' H' σ' p r => h W' H' r.le r.ws _ .non
  | ret d S => exact fun W' H' l w v r => h W' H' l w v r
  | err c ρ S => exact fun W' H' σ' r => h W' H' r.le r.ws
  | brk ρ S => exact False.elim h
  | cnt ρ S => exact False.elim h
  | bad => exact False.elim h
/-- a def keeps what its body's reading says; its frame lies on the caller's guards -/
theorem fn_good {N names : List Str} {k : Nat} {sp : Sp} {f : Addr} {dat : FuncData} {x qual : Str} {params : Arguments} {body : List Stmt} {scope : Scope} (F : FunD K x qual params body scope [] [] f dat) (S : FnScope N names scope)
    (len : ∀ {vs : List V} {H : Hp} {Q : VK} {Ex : XK}, sp vs H Q Ex → vs.length = names.length)
    (does : ∀ (cdv : Value) (A : Around) (outer : List Env) (s : Shared) (H : Hp) (vs : List V) (Q : VK) (Ex : XK), Rm (2 * k + 1) (A.deeper (envOfC qual scope s.heap.objs.size f cdv)) → A.guards = some [] → sp vs H Q Ex →
      ∃ t, PSs (cxOf (CXA P w) P w K mg base N qual scope f cdv A outer s H Ex) body t ∧ t { nx := fun _ H' => Q .non H', rt := Q } (L2.start N vs) H) : FnG P w K mg base (k + 1) f dat names sp := by
  obtain ⟨oc, od, dV, kV, doc, pm, an, cdv, ct, osl, rfl, at_, isC, _, _⟩ := F.ex
  refine ⟨len, ?_⟩
  intro A outer s H args us vs Q Ex room gd e0 bound vals wish
  have ln := len wish
  have inK : K.In s.heap := e0.mod.kin.keeps fun b o q => (e0.bs b o q).1
  have noL : s.heap.NoLimit := e0.mod.nolimit.keeps fun b o q => (e0.bs b o q).1
  refine codeAny_call_function room.depth (inK _ _ at_) rfl S.co S.gen rfl (PySem.W.codeRec_of inK isC) (bound _ _ _ _ ?_)
  refine wpAny_newFunctionEnv_cells S.kind ?_ ?_
  · rintro ⟨n, v⟩ hn
    cases S.par n (List.of_mem_zip hn).1 with
    | inl q => exact .inl q
    | inr q => exact .inr ⟨q, PySem.W.cellsFrom_some _ _ _ (.inl q)⟩
  · rintro env rfl s1 laid
    refine ⟨noL.keeps laid.toInCall.keep, codeAny_func ?_⟩
    obtain ⟨t, ht, hq⟩ := does cdv A outer s H vs Q Ex (Rm.deeper (n := 2 * k + 1) room _) gd wish
    refine wpAny_mono (ht.run [] s1 (L2.start N vs) H _ (inv_start S room.hd e0 ln vals laid) hq) ?_ fun _ _ z => z
    rintro fl s' hs
    cases fl with
    | ret u =>
      obtain ⟨v, _, H', J, rv, q⟩ := hs
      exact ⟨v, H', J.os, J.bare, J.base, J.hok, rv, q⟩
    | next =>
      obtain ⟨_, H', J, q⟩ := hs
      exact ⟨.non, H', J.os, J.bare, J.base, J.hok, rfl, q⟩
    | brk =>
      obtain ⟨_, _, _, q⟩ := hs
      exact q.elim
    | cont =>
      obtain ⟨_, _, _, q⟩ := hs
      exact q.elim
/-- EVERY DEF keeps what the evaluator says -/
theorem fn_all (M : Mok K mg g ev) : ∀ (k : Nat) (x : Str) (fd : Fd) (f : Addr) (fdat : FuncData) (nm qn : Str) (params : Arguments), lookF g x = some fd → scopeB fd = true → FunD K nm qn params fd.body fd.sc [] [] f fdat →
    FnG P w K mg base k f fdat fd.ps (spD K w ev fd.ps.length (callN g k x)) := by
  intro k
  induction k with
  | zero =>
    intro x fd f fdat nm qn params hx hsB F
    exact ⟨fun h => h.1, fun _ _ _ _ _ ⟨_, _, _, _, _, _, _, h⟩ => h.elim⟩
  | succ k ih =>
    intro x fd f fdat nm qn params hx hsB F
    have Sc := scope_ok hsB
    refine fn_good F Sc (fun h => h.1) fun cdv A outer s H vs Q Ex hr hgd h => ?_
    obtain ⟨hl, W, S, ds, hw, ws, rs, res⟩ := h
    rw [callN_eq hx] at res
    unfold runFd at res
    rw [if_pos (rs.length.trans hl)] at res
    have res := gc_res fd.gc ws res
    have lf : ∀ {y : Str} {fy : Fd}, g.fn y = some fy → lookF g y = some fy := fun {y fy} hy => by unfold lookF; rw [hy]
    have sok : Sok (cxOf (CXA P w) P w K mg base fd.N qn fd.sc f cdv A outer s H Ex) g (callN g k) ev ⟨W, H⟩ fd.N fd.sc (fun c _ H' => Ex (ev c) none H') k := by
      refine ⟨⟨rfl, Sc.nd, rfl, rfl, hr, hgd, ?_, M.con, fun y fy hy => by
        obtain ⟨hs2, f2, fdat2, nm2, qn2, params2, hm2, F2, hb2⟩ := M.fns y fy hy
        exact ⟨f2, fdat2, hm2, F2.kp, hb2.1, ih y fy f2 fdat2 nm2 qn2 params2 (lf hy) hs2 F2⟩, M.bis, hw, ⟨_, _, _, rfl, rfl, rfl⟩, fun y fy ds S hy q => callN_ar (lf hy) q, M.fld, fun y m q hy => by
        obtain ⟨hno, fy, hmf, hs2, f2, fdat2, nm2, qn2, params2, hc2, hm2, F2, hb2⟩ := M.mts y m q hy
        have hlook : lookF g q = some fy := by unfold lookF; rw [hno]; exact hmf
        exact ⟨fy, f2, fdat2, hmf, hc2, hm2, hb2, ih q fy f2 fdat2 nm2 qn2 params2 hlook hs2 F2, fun ds S z => callN_ar hlook z⟩, M.mkr⟩, passes_of rfl, ⟨rfl, Sc.nd, rfl, fun y hy => ?_⟩, Sc.kind, M.exc, rfl, rfl, M.sub, fun y c wd hy => by
        obtain ⟨Ca, fa, fd2, x2, h1, h2, h3, h4, h5⟩ := M.cls y c wd hy
        exact ⟨Ca, fa, fd2, x2, h1, h2, h3, h4, h5 P w base⟩⟩
      · refine (takesA_of (E := Ex) rfl rfl rfl rfl).imp fun cls σ H' ⟨c, h1, h2, h3⟩ => ?_
        rw [h1]
        exact h3
      · refine ⟨?_, .inl rfl⟩
        unfold locB kindB at hy
        split at hy
        · rename_i q; exact .inl q
        · rename_i q; exact .inr q
        · cases hy
    exact ⟨_, (sndS_n g (callN g k) ev ⟨W, H⟩ fd.N k 60).ss fd.boxy sok fd.body, W, startE fd.N ds, S, start_rel ws rs, fin_ores res⟩
end
end Lw
set_option maxHeartbeats 2000000
/-! LwL: a law's end. -/
namespace Lw
open PySem PySem.Spec PyProof.Rows L2

theorem zip_lookup : ∀ {ps : List Str} {us : List Value} {x : Str}, us.length = ps.length → x ∈ ps → ∃ u, (ps.zip us).lookup x = some u
  | [], _, _, _, h => by cases h
  | p :: ps, [], _, h, _ => by cases h
  | p :: ps, u :: us, x, h, hx => by
    show ∃ v, (match x == p with | true => some u | false => (ps.zip us).lookup x) = some v
    cases e : x == p with
    | true => exact ⟨u, rfl⟩
    | false =>
      rcases List.mem_cons.mp hx with q | q
      · rw [q] at e; simp at e
      · exact zip_lookup (by simpa using h) q
theorem zip_again : ∀ {ps : List Str} {us : List Value}, ps.Nodup → us.length = ps.length → (ps.filterMap fun n => ((ps.zip us).lookup n).map fun v => (n, v)) = ps.zip us
  | [], us, _, h => by cases us; rfl; cases h
  | p :: ps, [], _, h => by cases h
  | p :: ps, u :: us, nd, h => by
    have hn := List.nodup_cons.mp nd
    have e : (p :: ps).zip (u :: us) = (p, u) :: ps.zip us := rfl
    rw [e, List.filterMap_cons]
    have e1 : (((p, u) :: ps.zip us).lookup p) = some u := by simp [List.lookup]
    rw [e1]
    show (p, u) :: _ = _
    congr 1
    have key : ∀ (l : List Str), (∀ n ∈ l, (n == p) = false) → (l.filterMap fun n => (((p, u) :: ps.zip us).lookup n).map fun v => (n, v)) = l.filterMap fun n => ((ps.zip us).lookup n).map fun v => (n, v) := by
      intro l hl
      induction l with
      | nil => rfl
      | cons n l ih =>
        rw [List.filterMap_cons, List.filterMap_cons, ih fun m hm => hl m (List.mem_cons_of_mem _ hm)]
        have ne := hl n (List.mem_cons_self ..)
        have e2 : ((p, u) :: ps.zip us).lookup n = (ps.zip us).lookup n := by
          show (match n == p with | true => some u | false => (ps.zip us).lookup n) = _
          rw [ne]
        rw [e2]
    rw [key ps fun n hm => by
      cases z : n == p with
      | false => rfl
      | true => rw [beq_iff_eq] at z; rw [z] at hm; exact absurd hm hn.1]
    exact zip_again hn.2 (by simpa using h)
def bindB (p : Arguments) (ps : List Str) : Bool := p.posonlyargs.isEmpty && decide (p.args.map (·.arg) = ps) && p.vararg.isNone && p.kwonlyargs.isEmpty && p.kwarg.isNone && decide ps.Nodup
theorem bind_gen {x q : Str} {params : Arguments} {body : List Stmt} {scope : Scope} {kV doc pm cdv ct : Value} {an : Option Addr} {ps : List Str} {us : List Value} (h : bindB params ps = true) (hl : us.length = ps.length) :
    bindArgs (PySem.W.fnOf x q params body scope .none kV doc pm an cdv ct) ⟨us, []⟩ = pure (ps.zip us) := by
  unfold bindB at h
  simp only [Bool.and_eq_true, decide_eq_true_eq] at h
  obtain ⟨⟨⟨⟨⟨h1, h2⟩, h3⟩, h4⟩, h5⟩, h6⟩ := h
  obtain ⟨po, ar, va, ko, kd, kw, df⟩ := params
  cases po with
  | cons _ _ => cases h1
  | nil =>
  cases va with
  | some _ => cases h3
  | none =>
  cases ko with
  | cons _ _ => cases h4
  | nil =>
  cases kw with
  | some _ => cases h5
  | none =>
  have h2 : ar.map (·.arg) = ps := h2
  subst h2
  have hm : ((ar.map (·.arg)).filter fun n => (((ar.map (·.arg)).zip us).lookup n).isNone) = [] := by
    rw [List.filter_eq_nil_iff]
    intro n hn
    obtain ⟨u, e⟩ := zip_lookup hl hn
    rw [e]; simp
  have hz := zip_again h6 hl
  have e0 : seqItems? Value.none = pure none := rfl
  unfold bindArgs PySem.W.fnOf
  simp only [e0, List.map_nil, List.nil_append, List.append_nil, pure_bind, Option.getD_none, Array.toList_empty, List.drop_nil, List.length_nil, Nat.sub_zero, hl, List.take_length, hm]
  simp only [List.forIn_nil, pure_bind, hm, List.isEmpty_nil, Nat.lt_irrefl, gt_iff_lt, decide_false, Bool.false_and, Bool.not_true, if_false, Bool.false_eq_true, List.drop_length, List.zip_nil_right, Option.isNone_none]
  exact congrArg pure hz

/-! ### a module -/
def Df.fd (d : Df) : Fd := { ps := d.ps, N := d.N, body := defBody d.st, sc := defScope d.st, boxy := d.boxy, gc := d.gc }
def tIx : List Bool → Option Nat
  | [] => none
  | true :: _ => some 0
  | false :: bs => (tIx bs).map (· + 1)
theorem tIx_ok : ∀ {bs : List Bool} {j : Nat}, tIx bs = some j → bs[j]? = some true ∧ ∀ m z, m < j → bs[m]? = some z → z = false
  | [], _, h => by cases h
  | true :: bs, _, h => by
    cases h
    exact ⟨rfl, fun m z hm => absurd hm (Nat.not_lt_zero _)⟩
  | false :: bs, _, h => by
    obtain ⟨k, hk, rfl⟩ := Option.map_eq_some_iff.mp (show (tIx bs).map (· + 1) = some _ from h)
    obtain ⟨h1, h2⟩ := tIx_ok hk
    refine ⟨by simpa using h1, fun m z hm hz => ?_⟩
    cases m with
    | zero => simpa using hz.symm
    | succ m => exact h2 m z (by omega) (by simpa using hz)
def Md.sub (m : Md) (c x : Str) : Option Bool := if m.tells.isSome && m.excs.contains c && m.excs.contains x then some (isSub m.bases 8 c x) else none
def Md.clsD (m : Md) (f : Str) : Option (Df × Str × ClsF) := if m.tells = some f then (m.defs.lookup f).bind fun d => (match d.ps with
    | [xe] => (clsForm xe (defBody d.st)).map fun F0 => (d, xe, F0)
    | _ => none) else none
def Md.cls (m : Md) (f c : Str) : Option D := if m.excs.contains c then (m.clsD f).bind fun t => if (t.2.2.cs.map (isSub m.bases 8 c)).countP id = 1 then (tIx (t.2.2.cs.map (isSub m.bases 8 c))).bind fun j => (t.2.2.ws[j]?).map t.2.2.res else none else none
def Md.mt (m : Md) (x f : Str) : Option Str := (m.mets.find? fun t => decide (t.1 = x) && decide (t.2.1 = f)).map (·.2.2.1)
def Md.mf (m : Md) (q : Str) : Option Fd := (m.mets.find? fun t => decide (t.2.2.1 = q)).map fun t => t.2.2.2.fd
def Md.g (m : Md) : G := { con := fun x => (m.cons.lookup x).map D.int, fn := fun x => (m.defs.lookup x).map Df.fd, exc := fun x => m.excs.contains x, bi := fun x => m.bis.contains x, sub := m.sub, cls := m.cls, mt := m.mt, mf := m.mf, cl := fun x => m.clss.contains x, fld := fun x f => m.cflds.contains (x, f) }
theorem Md.old {m : Md} {f : He.Fa} (h : f ∈ m.fa0) : f ∈ m.fa := List.mem_append_left _ h
theorem Md.new {m : Md} {f : He.Fa} (h : f ∈ m.faC) : f ∈ m.fa := List.mem_append_right _ h
def Md.tellOk (m : Md) : Bool := match m.tells with
  | none => true
  | some f => (match m.clsD f with
    | none => false
    | some (d, xe, F0) => decide (d.N = [xe, F0.kind]) && decide (d.ps = [xe]) && isLocB (defScope d.st) F0.kind && isLocB (defScope d.st) xe && plainName xe && plainName F0.kind && glB (defScope d.st) "isinstance" && m.bis.contains "isinstance" &&
      glB (defScope d.st) "ValueError" && m.bis.contains "ValueError" && (F0.cs.all fun C => glB (defScope d.st) C && plainName C) && (F0.cs.all fun C => m.excs.contains C) && decide (F0.cs.length ≤ 1000) && decide (F0.ws.length ≤ 1000) && (!F0.str || (glB (defScope d.st) "str" && m.bis.contains "str")))
def Md.metOk (m : Md) : Bool := (m.mets.all fun t => (m.defs.lookup t.2.2.1).isNone && (scopeB t.2.2.2.fd && bindB (defArgs t.2.2.2.st) t.2.2.2.ps)) && m.mets.all fun t => m.mets.all fun t2 => !(decide (t.2.2.1 = t2.2.2.1)) || (decide (t.1 = t2.1) && decide (t.2.1 = t2.2.1))
def Md.ok (m : Md) : Bool := (m.defs.all fun d => scopeB d.2.fd && bindB (defArgs d.2.st) d.2.ps) && (m.tellOk && m.metOk)
theorem noList_ok {K : PySem.W.Frag} (h : noList K = true) {a : Addr} {o : Obj} (e : K.lookup a = some o) : o.cls ≠ .type "list" := by
  intro z
  have q := List.all_eq_true.mp h (a, o) (He.lookup_mem e)
  dsimp only at q
  rw [z] at q
  simp at q
theorem excB_ok {K : PySem.W.Frag} {D : Addr} (h : excB K D = true) : (L2.ExcC K D ∧ PySem.W.kitOne K (.ref D) (.type "ValueError") = some true) ∧ PySem.W.findIn K (.ref D) "__str__" = some (some (.builtin "BaseException.__str__")) := by
  unfold excB at h
  obtain ⟨h1, h⟩ := Bool.and_eq_true_iff.mp h
  obtain ⟨h2, h⟩ := Bool.and_eq_true_iff.mp h
  obtain ⟨h3, h⟩ := Bool.and_eq_true_iff.mp h
  obtain ⟨h4, h⟩ := Bool.and_eq_true_iff.mp h
  obtain ⟨h5, h⟩ := Bool.and_eq_true_iff.mp h
  obtain ⟨h6, h⟩ := Bool.and_eq_true_iff.mp h
  obtain ⟨h7, h⟩ := Bool.and_eq_true_iff.mp h
  obtain ⟨h8, h⟩ := Bool.and_eq_true_iff.mp h
  obtain ⟨h9, h10⟩ := Bool.and_eq_true_iff.mp h
  exact ⟨⟨⟨He.eqO_ok h1, He.eqO_ok h2, of_decide_eq_true h3, h4, He.eqO_ok h5, He.eqO_ok h6, of_decide_eq_true h7, of_decide_eq_true h8⟩, of_decide_eq_true h9⟩, He.eqO_ok h10⟩
theorem Md.more_no {m : Md} {K : PySem.W.Frag} (h : m.more K = true) : noList K = true := (Bool.and_eq_true_iff.mp h).1
theorem Md.more_ex {m : Md} {K : PySem.W.Frag} (h : m.more K = true) (t : m.tells.isSome = true) : m.excsB K = true := by
  have q := (Bool.and_eq_true_iff.mp h).2
  rw [if_pos t] at q
  exact q
def evK (K : PySem.W.Frag) (x : Str) : Value := .ref (He.ga K x)
theorem lookup_memS {α : Type} {x : Str} {b : α} : ∀ {l : List (Str × α)}, l.lookup x = some b → (x, b) ∈ l
  | [], h => by cases h
  | (y, u) :: r, h => by
    have h2 : (match x == y with | true => some u | false => r.lookup x) = some b := h
    cases q : (x == y) with
    | true =>
      rw [q] at h2
      have e : u = b := Option.some.inj h2
      rw [beq_iff_eq.mp q, e]
      exact List.mem_cons_self
    | false =>
      rw [q] at h2
      exact List.mem_cons_of_mem _ (lookup_memS h2)
section
variable {m : Md} {K : PySem.W.Frag} {mg : Str → Option Value} {h : Heap}
theorem md_fns (hm : m.ok = true) (X : K.In h) (G : h.Ns mainGlobals mg) (c : He.SaysD m.fa m.fn K) {x : Str} {d : Df} (h1 : m.defs.lookup x = some d) :
    scopeB d.fd = true ∧ ∃ f fdat nm qn params, mg x = some (.ref f) ∧ FunD K nm qn params d.fd.body d.fd.sc [] [] f fdat ∧ Binds K fdat d.fd.ps [] ∧ ∀ (s : Shared) (us : List Value), us.length = d.fd.ps.length → BindsTo s fdat ⟨us, []⟩ (d.fd.ps.zip us) := by
  have hmem := lookup_memS h1
  obtain ⟨k1, k2⟩ := Bool.and_eq_true_iff.mp (List.all_eq_true.mp (Bool.and_eq_true_iff.mp hm).1 _ hmem)
  have f1 : He.Fa.glo x ∈ m.fa0 := List.mem_append_left _ (List.mem_map.mpr ⟨(x, d), hmem, rfl⟩)
  obtain ⟨fdat, F⟩ := c.defs (d := dD (x, d)) (List.mem_append_left _ (List.mem_map.mpr ⟨(x, d), hmem, rfl⟩))
  exact ⟨k1, _, fdat, x, x, defArgs d.st, He.glo_ok X G (c.facts (Md.old f1)), F, FunD.bindsN F fun kV doc pm an cdv ct us hl => bind_gen k2 hl, FunD.bindsA F fun kV doc pm an cdv ct us hl => bind_gen k2 hl⟩
theorem md_kinds (X : K.In h) (G : h.Ns mainGlobals mg) (cc : He.SaysD m.fa m.fn K) (he : m.excsB K = true) {c : Str} (hc : m.excs.contains c = true) : ∀ {cs : List Str}, cs.all (fun C => m.excs.contains C) = true → KindOk K mg (He.ga K c) cs (cs.map (isSub m.bases 8 c))
  | [], _ => trivial
  | C :: cs, h1 => by
    rw [List.all_cons, Bool.and_eq_true] at h1
    have q := (Bool.and_eq_true_iff.mp (List.all_eq_true.mp he c (List.contains_iff_mem.mp hc))).2
    have q2 := (Bool.and_eq_true_iff.mp (List.all_eq_true.mp q C (List.contains_iff_mem.mp h1.1))).2
    have f1 : He.Fa.glo C ∈ m.fa0 := List.mem_append_right _ (List.mem_append_right _ (List.mem_append_left _ (List.mem_map.mpr ⟨C, List.contains_iff_mem.mp h1.1, rfl⟩)))
    exact ⟨⟨_, He.glo_ok X G (cc.facts (Md.old f1)), of_decide_eq_true q2⟩, md_kinds X G cc he hc h1.2⟩
theorem md_mok (hm : m.ok = true) (X : K.In h) (G : h.Ns mainGlobals mg) (c : He.SaysD m.fa m.fn K) (hmore : m.more K = true) : Mok K mg m.g (evK K) where
  con := fun x d e => by
    obtain ⟨i, h1, h2⟩ := Option.map_eq_some_iff.mp e
    subst h2
    have hf : He.Fa.int x i ∈ m.fa0 := List.mem_append_right _ (List.mem_append_left _ (List.mem_map.mpr ⟨(x, i), lookup_memS h1, rfl⟩))
    obtain ⟨t, q⟩ := He.int_ok X G (c.facts (Md.old hf))
    exact ⟨_, .int i, q, ⟨t, rfl⟩, fun W H => .int i⟩
  bis := fun x e => He.free_ok X G (c.facts (Md.old (List.mem_append_right _ (List.mem_append_right _ (List.mem_append_right _ (List.mem_append_right _ (List.mem_map.mpr ⟨x, List.contains_iff_mem.mp e, rfl⟩)))))))
  sub := fun a x b e => by
    have e : (if m.tells.isSome && m.excs.contains a && m.excs.contains x then some (isSub m.bases 8 a x) else none) = some b := e
    split at e
    · rename_i hc
      simp only [Bool.and_eq_true] at hc
      obtain ⟨⟨h1, h2⟩, h3⟩ := hc
      have he := Md.more_ex hmore h1
      have q := (Bool.and_eq_true_iff.mp (List.all_eq_true.mp he a (List.contains_iff_mem.mp h2))).2
      have q2 := (Bool.and_eq_true_iff.mp (List.all_eq_true.mp q x (List.contains_iff_mem.mp h3))).1
      rw [← e]
      exact of_decide_eq_true q2
    · cases e
  cls := fun f a wd e => by
    have e : (if m.excs.contains a then (m.clsD f).bind fun t => if (t.2.2.cs.map (isSub m.bases 8 a)).countP id = 1 then (tIx (t.2.2.cs.map (isSub m.bases 8 a))).bind fun j => (t.2.2.ws[j]?).map t.2.2.res else none else none) = some wd := e
    split at e
    · rename_i hc
      obtain ⟨t, e1, e2⟩ := Option.bind_eq_some_iff.mp e
      split at e2
      · rename_i one
        obtain ⟨j, e3, e4'⟩ := Option.bind_eq_some_iff.mp e2
        obtain ⟨wd0, e4, rfl⟩ := Option.map_eq_some_iff.mp e4'
        obtain ⟨hj, hno⟩ := tIx_ok e3
        have htell : m.tells = some f := by
          unfold Md.clsD at e1
          split at e1
          · assumption
          · cases e1
        have ok2 := (Bool.and_eq_true_iff.mp (Bool.and_eq_true_iff.mp hm).2).1
        unfold Md.tellOk at ok2
        rw [htell] at ok2
        dsimp only at ok2
        rw [e1] at ok2
        obtain ⟨d, xe, F0⟩ := t
        simp only [Bool.and_eq_true, decide_eq_true_eq] at ok2
        obtain ⟨⟨⟨⟨⟨⟨⟨⟨⟨⟨⟨⟨⟨⟨o1, o2⟩, o3⟩, o4⟩, o5⟩, o6⟩, o7⟩, o8⟩, o9⟩, o10⟩, o11⟩, o12⟩, o13⟩, o14⟩, o15⟩ := ok2
        unfold Md.clsD at e1
        rw [if_pos htell] at e1
        obtain ⟨d', l1, l2⟩ := Option.bind_eq_some_iff.mp e1
        split at l2
        · rename_i xe' hps
          obtain ⟨F0', l3, l4⟩ := Option.map_eq_some_iff.mp l2
          cases l4
          obtain ⟨k1, fa, fdat, nm, qn, params, m1, F, b1, _⟩ := md_fns hm X G c l1
          have Sc := scope_ok k1
          have he := Md.more_ex hmore (by rw [htell]; rfl)
          have hq := excB_ok (Bool.and_eq_true_iff.mp (List.all_eq_true.mp he a (List.contains_iff_mem.mp hc))).1
          have hps2 : d.fd.ps = [xe] := o2
          have hN2 : d.fd.N = [xe, F0.kind] := o1
          rw [hps2] at b1
          rw [hps2, hN2] at Sc
          have bi : ∀ x, m.bis.contains x = true → mg x = none := fun x e => He.free_ok X G (c.facts (Md.old (List.mem_append_right _ (List.mem_append_right _ (List.mem_append_right _ (List.mem_append_right _ (List.mem_map.mpr ⟨x, List.contains_iff_mem.mp e, rfl⟩)))))))
          refine ⟨_, fa, fdat, xe, rfl, m1, F.kp, b1, fun P w base => fn_cls F l3 Sc o3 o4 o5 o6 o7 (bi _ o8) o9 (bi _ o10) o11 hq.1.1 (md_kinds X G c he hc o12) hq.1.2 hq.2 (fun z => by
            rcases Bool.or_eq_true_iff.mp o15 with q | q
            · rw [z] at q; cases q
            · have q2 := Bool.and_eq_true_iff.mp q
              exact ⟨q2.1, bi _ q2.2⟩) one hj hno e4 ⟨o13, o14, by rw [List.length_map]; exact o13⟩⟩
        · cases l2
      · cases e2
    · cases e
  exc := fun x e => by
    have e := List.contains_iff_mem.mp e
    have f1 : He.Fa.glo x ∈ m.fa0 := List.mem_append_right _ (List.mem_append_right _ (List.mem_append_left _ (List.mem_map.mpr ⟨x, e, rfl⟩)))
    have f2 : He.Fa.exc x ∈ m.fa0 := List.mem_append_right _ (List.mem_append_right _ (List.mem_append_right _ (List.mem_append_left _ (List.mem_map.mpr ⟨x, e, rfl⟩))))
    obtain ⟨h1, h2, h3, h4⟩ := He.exc_ok (c.facts (Md.old f2))
    exact ⟨_, He.glo_ok X G (c.facts (Md.old f1)), rfl, h1, h2, h3, h4⟩
  fns := fun x fd e => by
    obtain ⟨d, h1, h2⟩ := Option.map_eq_some_iff.mp e
    subst h2
    exact md_fns hm X G c h1
  fld := fun x f e => by
    have e := List.contains_iff_mem.mp e
    have f1 : He.Fa.cls x ∈ m.faC := List.mem_append_right _ (List.mem_append_right _ (List.mem_append_right _ (List.mem_append_right _ (List.mem_append_left _ (List.mem_map.mpr ⟨(x, f), e, rfl⟩)))))
    have f2 : He.Fa.noat x f ∈ m.faC := List.mem_append_right _ (List.mem_append_right _ (List.mem_append_right _ (List.mem_append_right _ (List.mem_append_right _ (List.mem_map.mpr ⟨(x, f), e, rfl⟩)))))
    exact ⟨He.cls_ok (c.facts (Md.new f1)), He.noat_ok (c.facts (Md.new f2))⟩
  mts := fun x f q e => by
    obtain ⟨t, e1, e2⟩ := Option.map_eq_some_iff.mp (show (m.mets.find? fun t => decide (t.1 = x) && decide (t.2.1 = f)).map (·.2.2.1) = some q from e)
    have hmem := List.mem_of_find?_eq_some e1
    have ht := List.find?_some e1
    simp only [Bool.and_eq_true, decide_eq_true_eq] at ht
    have o0 := (Bool.and_eq_true_iff.mp (Bool.and_eq_true_iff.mp hm).2).2
    obtain ⟨o1, o2⟩ := Bool.and_eq_true_iff.mp (by unfold Md.metOk at o0; exact o0)
    have a1 := List.all_eq_true.mp o1 t hmem
    simp only [Bool.and_eq_true] at a1
    refine ⟨by show (m.defs.lookup q).map Df.fd = none; rw [← e2, Option.isNone_iff_eq_none.mp a1.1] <;> rfl, ?_⟩
    cases z : m.mets.find? fun t => decide (t.2.2.1 = q) with
    | none =>
      have := List.find?_eq_none.mp z t hmem
      exact absurd (decide_eq_true e2) this
    | some t2 =>
      have hmem2 := List.mem_of_find?_eq_some z
      have hq2 : t2.2.2.1 = q := by simpa using List.find?_some z
      have a2 := List.all_eq_true.mp (List.all_eq_true.mp o2 t hmem) t2 hmem2
      have same : t.2.2.1 = t2.2.2.1 := e2.trans hq2.symm
      rw [decide_eq_true same] at a2
      have a3 := Bool.and_eq_true_iff.mp (show (decide (t.1 = t2.1) && decide (t.2.1 = t2.2.1)) = true from a2)
      have n1 : t2.1 = x := (of_decide_eq_true a3.1).symm.trans ht.1
      have n2 : t2.2.1 = f := (of_decide_eq_true a3.2).symm.trans ht.2
      have b1 := List.all_eq_true.mp o1 t2 hmem2
      simp only [Bool.and_eq_true] at b1
      obtain ⟨fdat, F⟩ := c.defs (d := dM t2) (List.mem_append_right _ (List.mem_map.mpr ⟨t2, hmem2, rfl⟩))
      have f1 : He.Fa.cls t2.1 ∈ m.faC := List.mem_append_right _ (List.mem_append_right _ (List.mem_append_left _ (List.mem_map.mpr ⟨t2, hmem2, rfl⟩)))
      have f2 : He.Fa.meth t2.1 t2.2.1 ∈ m.faC := List.mem_append_right _ (List.mem_append_right _ (List.mem_append_right _ (List.mem_append_left _ (List.mem_map.mpr ⟨t2, hmem2, rfl⟩))))
      have k1 := He.cls_ok (c.facts (Md.new f1))
      have k2 := He.meth_ok (c.facts (Md.new f2))
      rw [n1] at k1
      rw [n1, n2] at k2
      refine ⟨t2.2.2.2.fd, by show (m.mets.find? fun t => decide (t.2.2.1 = q)).map (fun t => t.2.2.2.fd) = _; rw [z]; rfl, b1.2.1, _, fdat, t2.2.1, t2.2.2.1, defArgs t2.2.2.2.st, k1, k2, ?_, ?_⟩
      · rw [← n1, ← n2]; exact F
      · exact FunD.bindsN F fun kV doc pm an cdv ct us hl => bind_gen b1.2.2 hl
  mkr := fun x e => by
    have e := List.contains_iff_mem.mp e
    have f1 : He.Fa.glo x ∈ m.faC := List.mem_append_left _ (List.mem_map.mpr ⟨x, e, rfl⟩)
    have f2 : He.Fa.mkr x ∈ m.faC := List.mem_append_right _ (List.mem_append_left _ (List.mem_map.mpr ⟨x, e, rfl⟩))
    have k := He.mkr_ok (c.facts (Md.new f2))
    exact ⟨He.glo_ok X G (c.facts (Md.new f1)), k.makes, k.kp⟩
end
/-- what the law's def promises -/
def spLaw (K : PySem.W.Frag) (n : Nat) : Sp := fun vs H Q _ => ∃ (a : Addr) (ns : List Int), vs = [.ref a] ∧ ns.length ≤ n ∧ Only H ∧ SqL K H a (ns.map V.int) ∧ ∀ H', Q (.bl true) H'
theorem reps_ints {K : PySem.W.Frag} {W : Wd} {H : Hp} : ∀ ns : List Int, Reps K W H (ns.map D.int) (ns.map V.int)
  | [] => .nil
  | n :: ns => .cons (.int n) (reps_ints ns)
theorem law_fn {P : Program} {w : World} {K : PySem.W.Frag} {mg : Str → Option Value} {base : Heap} {ev : Str → Value} {n k : Nat} {f : Addr} {fd : FuncData} {x : Str} {C : Call} (hK : noList K = true)
    (hm : ∀ ns : List Int, ns.length ≤ n → ∃ S, C "law" [.lst (ns.map D.int)] [] = .ok (.bl true) S)
    (F : FnG P w K mg base k f fd [x] (spD K w ev 1 (C "law"))) : FnG P w K mg base k f fd [x] (spLaw K n) := by
  refine ⟨fun ⟨a, ns, e, _⟩ => by rw [e]; rfl, ?_⟩
  intro A outer s H args us vs Q E hr hgd e0 hb r h
  obtain ⟨a, ns, e, hl, hO, hS, hQ⟩ := h
  refine F.run hr hgd e0 hb r ?_
  subst e
  obtain ⟨S, hS2⟩ := hm ns hl
  have hR : Rd H a (.lst (ns.map V.int)) := by
    rcases hS with q | ⟨o, its, n, q1, q2, _⟩
    · exact q
    · exact absurd q2 (noList_ok hK q1)
  refine ⟨rfl, ⟨fun b => b = a, 0, fun _ => 0, w⟩, [], [.lst (ns.map D.int)], rfl, ⟨rfl, fun i o e => by simp at e, fun i j h => absurd h (Nat.not_lt_zero _), fun i h => absurd h (Nat.not_lt_zero _), fun b hb z => ?_, fun b xs q => (q.ok e0.hok).1, fun b xs q => ?_⟩, .cons (.lst rfl hR (reps_ints ns)) .nil, ?_⟩
  · have hb : b = a := hb
    subst hb
    rcases hR with q | ⟨o, q⟩
    · rw [z] at q; cases q
    · rw [z] at q; cases q
  · rcases q with q | ⟨o, its, n, _, _, _, h4, h5⟩
    · rcases q with q | ⟨o, q⟩
      · rcases hO b with z | ⟨_, _, z⟩
        · rw [z] at q; cases q
        · rw [z] at q; cases q
      · rcases hO b with z | ⟨_, _, z⟩
        · rw [z] at q; cases q
        · rw [z] at q; cases q
    · rw [h5.length]
      simpa using h4
  · rw [hS2]
    intro W' H' l w v rv
    cases rv
    exact hQ H'
theorem cx_end {P : Program} {w : World} {H : Hp} {s s' : Shared} {e : Value} (h : CXA P w [] H s (fun _ _ _ => False) e s') : False := by
  obtain ⟨_, _, _, _, _, _, _, _, _, _, _, _, z⟩ := h
  exact z
/-- the script alone is tracked -/
def onlyH (a : Addr) (o : HO) : Hp := fun b => if b = a then some o else none
/-- the law's call at the top -/
theorem law_goes {P : Program} {w : World} {K : PySem.W.Frag} {mg mb : Str → Option Value} {n k : Nat} {fa a : Addr} {dat : FuncData} {x : Str} {top : Shared} {vs : List Value} {ns : List Int}
    (hK : noList K = true) (inK : K.In top.heap) (nsM : top.heap.Ns mainGlobals mg) (nsB : top.heap.Ns builtinsNs mb) (boot : ∀ y : Str, y ≠ "__name__" → mb y = bootBuiltins y) (noL : top.heap.NoLimit) (noG : top.gens = #[])
    (obj : top.heap.get? a = some { cls := .type "list", data := .seq vs.toArray }) (nums : IntsAre vs ns) (small : ns.length ≤ sizeLine) (few : ns.length ≤ n) (room : Rm (2 * k) callerA)
    (F : ∀ base : Heap, K.In base → base.Ns mainGlobals mg → FnG P w K mg base k fa dat [x] (spLaw K n)) (bd : ∀ (s : Shared) (u : Value), BindsTo s dat ⟨[u], []⟩ [(x, u)]) :
    codeAny (model P w) callerA (.call (.ref fa) ⟨[.ref a], []⟩) (fun res s' => res = .ok (.ret (.bool true)) ∧ PySem.OldK top.heap s'.heap ∧ s'.os = top.os ∧ AllBare s'.gens) top := by
  have rv := vals_ints nums
  have nK : K.lookup a = none := by
    cases q : K.lookup a with
    | none => rfl
    | some o =>
      have e := inK a o q
      rw [obj] at e
      cases e
      exact absurd rfl (noList_ok hK q)
  let scr : HO := .frz { cls := .type "list", data := .seq vs.toArray } (.lst (ns.map V.int))
  have here : onlyH a scr a = some scr := if_pos rfl
  have else_ : ∀ {b : Addr}, b ≠ a → onlyH a scr b = none := fun h => if_neg h
  have just : ∀ {b : Addr} {u : HO}, onlyH a scr b = some u → b = a ∧ u = scr := fun {b u} z => by
    by_cases q : b = a
    · subst q
      rw [here] at z
      exact ⟨rfl, (Option.some.inj z).symm⟩
    · rw [else_ q] at z; cases z
  have left : ∀ {b : Addr} {o : Obj}, top.heap.get? b = some o → b ≠ a → (hidT top.heap (onlyH a scr)).get? b = some o := fun q h => hidT_get q (else_ h)
  have names : ∀ {b : Addr} {m : Str → Option Value}, top.heap.Ns b m → (hidT top.heap (onlyH a scr)).Ns b m := fun {b m} ⟨o, es, ep, q, d, r⟩ => by
    refine ⟨o, es, ep, left q fun z => ?_, d, r⟩
    rw [z, obj] at q
    cases q
    have d' : Data.seq vs.toArray _ = Data.dict es ep := d
    cases d'
  have inB : K.In (hidT top.heap (onlyH a scr)) := fun b o q => left (inK b o q) fun z => by rw [z, nK] at q; cases q
  have hok : HOk P w (onlyH a scr) top.heap := fun b u z => by
    obtain ⟨rfl, rfl⟩ := just z
    exact ⟨obj, by rw [List.length_map]; exact small, vs, _, rv, obj⟩
  obtain ⟨mc, l1, l2⟩ := noL
  have e0 : Env0 P w K mg (hidT top.heap (onlyH a scr)) callerA [] top (onlyH a scr) :=
    ⟨rfl, ⟨inB, names nsM, ⟨mb, names nsB, boot⟩, ⟨mc, names l1, l2⟩⟩, fun b o q => of_hidT q, Nat.le_of_eq (hidT_size _ _), trivial, fun b hb => absurd hb (List.not_mem_nil), hok, .of_eq noG⟩
  have wish : spLaw K n [.ref a] (onlyH a scr) (fun v _ => v = .bl true) (fun _ _ _ => False) := by
    refine ⟨a, ns, rfl, few, fun b => ?_, .inl (.inr ⟨_, here⟩), fun _ => rfl⟩
    by_cases q : b = a
    · subst q; exact .inr ⟨_, _, here⟩
    · exact .inl (else_ q)
  refine codeAny_mono ((F _ inB (names nsM)).run (us := [.ref a]) (vs := [V.ref a]) room rfl e0 (bd top (.ref a)) (.cons rfl .nil) wish) ?_
  rintro (err | fl) s' h
  · exact (cx_end h).elim
  · cases fl with
    | ret u =>
      obtain ⟨v, H', os, bare, un, hok', r', q⟩ := h
      obtain rfl : v = .bl true := q
      obtain rfl : u = Value.bool true := r'
      refine ⟨rfl, OldK.of_keep fun b o e => ?_, os, bare⟩
      by_cases q : b = a
      · subst q
        obtain ⟨e1, _⟩ := hok' b _ (un.frzs b _ _ here)
        rw [obj] at e
        cases e
        exact e1
      · exact un.keep b o e (else_ q) (fun z => absurd z List.not_mem_nil) (by simp)
    | _ => exact h.elim
theorem Md.ob_eq (m : Md) (s : PySem.W.SharedT) : m.ob s = m.hk.obs s.abs := He.obsX_eq (HandSHeadRun.getT_eq s)
/-- THE END of a law -/
theorem law_end {m : Md} {l : PySem.W.OpenLaw} {n k : Nat} {q : Program} {loose : List Str} {XP : (Str → Option Value) → Heap → Prop} {d : DefRec} {df : Df}
    (hn : l.most = some n) (hn2 : n ≤ sizeLine) (hdf : d.params.defaults = []) (hr : Rm (2 * k) callerA) (hok : m.ok = true) (hd : m.defs.lookup ("law" : Str) = some df) (hps : ∃ x, df.ps = [x]) (hnm : d.name = "law")
    (hm : ∀ ns : List Int, ns.length ≤ n → ∃ S, callN m.g k "law" [.lst (ns.map D.int)] [] = .ok (.bl true) S) :
    PySem.W.WalkO q loose XP m.hk.says l.row.toRowW d [] (fun f vs => PySem.call f vs) := by
  obtain ⟨x, hx⟩ := hps
  refine Att.attach_call hn hdf fun w s₀ top mg mb fa o pm cd doc a vs ns G Y ho hdd hcd hmg hobj hints hlen hg => ?_
  obtain ⟨K, KX, c⟩ := Y
  have M := md_mok (m := m) hok KX G.T.g c.t.d c.more
  have hgf : m.g.fn "law" = some df.fd := by show (m.defs.lookup ("law" : Str)).map Df.fd = _; rw [hd]; rfl
  obtain ⟨hsB, f, fdat, nm, qn, params, hmf, F, hb⟩ := M.fns "law" df.fd hgf
  rw [hnm] at hmg
  rw [hmg] at hmf
  cases hmf
  have hps2 : df.fd.ps = [x] := hx
  refine law_goes (n := n) (x := x) (dat := fdat) (Md.more_no c.more) KX G.T.g G.T.b G.T.builtins G.T.nolimit hg hobj hints (Nat.le_trans hlen hn2) hlen hr (fun base hB hN => ?_) fun s u => ?_
  · have F2 := fn_all (P := l.prog) (w := w) (base := base) M k "law" df.fd _ fdat nm qn params (by unfold lookF; rw [hgf]) hsB F
    rw [hps2] at F2
    exact law_fn (C := callN m.g k) (Md.more_no c.more) hm F2
  · have b2 := hb.2 s [u] (by rw [hps2]; rfl)
    rw [hps2] at b2
    exact b2
end Lw
set_option maxHeartbeats 0
open PySem PySem.W PySem.Calls PyProof.Rows PySem.Spec in
theorem K29.holds_of (k : Nat) (hr : Lw.Rm (2 * k) callerA) (hm : ∀ ns : List Int, ns.length ≤ 63 → ∃ S, Lw.callN K29.md.g k "law" [.lst (ns.map Lw.D.int)] [] = .ok (.bl true) S) : PySem.Challenge.rw_leafward_k29_texts_of_schemas.Holds := by
  w_on; o_law
  refine HandSHeadRun.head_any (r := OpenLaw.row PySem.Challenge.rw_leafward_k29_texts_of_schemas) (q := view (OpenLaw.row PySem.Challenge.rw_leafward_k29_texts_of_schemas).prog [41]) (H := K29.md.hk) (ob := K29.md.ob) (M := 4000) (loose := K29.loose) (d := HandSHeadRun.topDef (OpenLaw.row PySem.Challenge.rw_leafward_k29_texts_of_schemas).prog 41) (kwd := [])
    K29.md.ob_eq (by kernel_rfl) (fun s => by kernel_rfl) K29.top_run (by kernel_rfl) (by kernel_rfl) (by kernel_rfl) (by rfl) (by first | assumption | decide +kernel) (by decide +kernel) ⟨rfl, rfl, rfl, rfl, rfl, by decide +kernel⟩ ?hw ?hc
  case hw => w_witness2
  case hc => exact Lw.law_end (l := PySem.Challenge.rw_leafward_k29_texts_of_schemas) (n := 63) (df := K29.d_law) rfl (by decide) (by kernel_rfl) hr (by decide +kernel) (by kernel_rfl) ⟨"_law_script", rfl⟩ (by kernel_rfl) hm
set_option maxHeartbeats 2000000
/-! LwM: words for the texts that tools/shallow.py prints. -/
namespace Lw
open PySem

def rdE (s : Sl) (S : Sto) : R D := match s with
  | .val d => .ok d S
  | _ => .bad
def rdT (s : Sl) (S : Sto) : R D := match s with
  | .val d => .ok d S
  | .own ds => .ok (.lst ds) S
  | _ => .bad
inductive Tg where
  | nm (i : Nat) | tp (ts : List Tg)
mutual
def asgG : Nat → Tg → D → Ev → Option Ev
  | 0, _, _, _ => none
  | n + 1, e, d, ρ => match e with
    | .nm i => if decide (i < ρ.length) then some (ρ.set i (.val d)) else none
    | .tp es => (match d with
      | .tup ds => asgGs n es ds ρ
      | _ => none)
def asgGs : Nat → List Tg → List D → Ev → Option Ev
  | 0, _, _, _ => none
  | n + 1, es, ds, ρ => match es, ds with
    | [], [] => some ρ
    | e :: es, d :: ds => (asgG n e d ρ).bind fun ρ1 => asgGs n es ds ρ1
    | _, _ => none
end
def tstD (d : D) (S : Sto) : R Bool := R.opt (truD (view S d)) S
def blD (d : D) (S : Sto) : R Bool := match d with
  | .bl b => .ok b S
  | _ => .bad
def negD (d : D) (S : Sto) : R D := match d with
  | .int i => .ok (.int (-i)) S
  | _ => .bad
def ixD (d : D) (S : Sto) : R (Option Int) := match d with
  | .int i => .ok (some i) S
  | _ => .bad
/-- and, or of values: the first is a bool -/
def andD (d : D) (S : Sto) (f : Sto → R D) : R D := match d with
  | .bl b => if b then f S else .ok (.bl false) S
  | _ => .bad
def orD (d : D) (S : Sto) (f : Sto → R D) : R D := match d with
  | .bl b => if b then .ok (.bl true) S else f S
  | _ => .bad
def asg1 (o : Option Ev) (S : Sto) (f : Ev → Sto → O) : O := match o with
  | some ρ => f ρ S
  | none => .bad
def subD (x j v : D) (ρ : Ev) (S : Sto) : O := match x with
  | .ref a => (match storeX a j v S with
    | some S4 => .nx ρ S4
    | none => .bad)
  | _ => .bad
/-- {k: v} -/
def dic1 (k v : D) (S : Sto) : R D := if (keyD k).isSome then .ok (.ref S.length) (S ++ [.dic [(k, v)]]) else .bad
/-- behind a while's block -/
def thenF (f : Ev → Ev) : O → O
  | .nx ρ S => .nx (f ρ) S
  | .cnt ρ S => .cnt (f ρ) S
  | o => o
def appS (s : Sl) (f : List D → O) : O := match s with
  | .own ds => f ds
  | _ => .bad
/-- x.append(..): a list of one's own, one of the store -/
def appN (s : Sl) (S : Sto) (f : List D → O) (h : Nat → O) : O := match s with
  | .own ds => f ds
  | .val x => (match lstAt x S with
    | some i => h i
    | none => .bad)
  | _ => .bad
def appX (x : D) (S : Sto) (h : Nat → O) : O := match lstAt x S with
  | some i => h i
  | none => .bad
def augS (s : Sl) (f : D → O) : O := match s with
  | .val d => f d
  | _ => .bad
def threeD (ds : List D) (f : D → D → D → O) : O := match ds with
  | [a, b, c] => f a b c
  | _ => .bad
def optS (o : Option D) (f : D → O) : O := match o with
  | some d => f d
  | none => .bad
def twoD (ds : List D) (f : D → D → O) : O := match ds with
  | [a, b] => f a b
  | _ => .bad
/-- a method's call, where there is one -/
def methK (o : Option Str) (f : Str → R D) : R D := match o with
  | some q => f q
  | none => .bad
def stoK (o : Option Sto) (f : Sto → O) : O := match o with
  | some S => f S
  | none => .bad
def extS (s : Sl) (f : List D → O) : O := match s with
  | .own ds => f ds
  | _ => .bad
def extK (o : Option (List D)) (f : List D → O) : O := match o with
  | some es => f es
  | none => .bad
def backD (o : Option (List D × Sto)) (f : List D → Sto → O) : O := match o with
  | some (ds, S) => f ds S
  | none => .bad
end Lw
set_option maxHeartbeats 2000000
/-! LwN: plain Lean about the words of LwM. -/
namespace Lw
open PySem
section
variable {α β : Type} {S S' : Sto} {ρ : Ev} {s : Sl}
@[simp] theorem rb_ok (a : α) (S : Sto) (f : α → Sto → R β) : R.bind (.ok a S) f = f a S := id rfl
@[simp] theorem rb_err (c : Str) (S : Sto) (f : α → Sto → R β) : R.bind (.err c S) f = .err c S := id rfl
@[simp] theorem rr_ok (a : α) (S : Sto) (f : α → Sto → O) : R.run (.ok a S) ρ f = f a S := id rfl
@[simp] theorem rr_err (c : Str) (S : Sto) (f : α → Sto → O) : R.run (.err c S) ρ f = .err c ρ S := id rfl
@[simp] theorem sq_nx (f : Ev → Sto → O) : O.seq (.nx ρ S) f = f ρ S := id rfl
@[simp] theorem sq_ret (d : D) (f : Ev → Sto → O) : O.seq (.ret d S) f = .ret d S := id rfl
@[simp] theorem sq_brk (f : Ev → Sto → O) : O.seq (.brk ρ S) f = .brk ρ S := id rfl
@[simp] theorem sq_cnt (f : Ev → Sto → O) : O.seq (.cnt ρ S) f = .cnt ρ S := id rfl
@[simp] theorem sq_err (c : Str) (f : Ev → Sto → O) : O.seq (.err c ρ S) f = .err c ρ S := id rfl
@[simp] theorem fin_nx : O.fin (.nx ρ S) = .ok .non S := id rfl
@[simp] theorem fin_ret (d : D) : O.fin (.ret d S) = .ok d S := id rfl
@[simp] theorem fin_err (c : Str) : O.fin (.err c ρ S) = .err c S := id rfl
@[simp] theorem gs_z : getSl (s :: ρ) 0 = s := id rfl
@[simp] theorem gs_s (n : Nat) : getSl (s :: ρ) (n + 1) = getSl ρ n := id rfl
@[simp] theorem rdE_val (d : D) : rdE (.val d) S = .ok d S := id rfl
@[simp] theorem rdT_val (d : D) : rdT (.val d) S = .ok d S := id rfl
@[simp] theorem rdT_own (ds : List D) : rdT (.own ds) S = .ok (.lst ds) S := id rfl
@[simp] theorem fz_z : fz (s :: ρ) 0 = freezeSl s :: ρ := id rfl
@[simp] theorem fz_s (n : Nat) : fz (s :: ρ) (n + 1) = s :: fz ρ n := id rfl
@[simp] theorem frs_v (d : D) : freezeSl (.val d) = .val d := id rfl
@[simp] theorem frs_u : freezeSl .un = .un := id rfl
@[simp] theorem frs_o (ds : List D) : freezeSl (.own ds) = .val (.lst ds) := id rfl
@[simp] theorem opt_s (a : α) : R.opt (some a) S = .ok a S := id rfl
@[simp] theorem vw_int (i : Int) : view S (.int i) = .int i := id rfl
@[simp] theorem vw_bl (i : Bool) : view S (.bl i) = .bl i := id rfl
@[simp] theorem vw_str (i : Str) : view S (.str i) = .str i := id rfl
@[simp] theorem vw_non : view S .non = .non := id rfl
@[simp] theorem vw_tup (ds : List D) : view S (.tup ds) = .tup ds := id rfl
@[simp] theorem vw_lst (ds : List D) : view S (.lst ds) = .lst ds := id rfl
@[simp] theorem vw_ref0 (ds : List D) : view (.lst ds :: S) (.ref 0) = .lst ds := id rfl
@[simp] theorem tst_bl (b : Bool) : tstD (.bl b) S = .ok b S := id rfl
@[simp] theorem tst_tup (ds : List D) : tstD (.tup ds) S = .ok (!ds.isEmpty) S := id rfl
@[simp] theorem tst_lst (ds : List D) : tstD (.lst ds) S = .ok (!ds.isEmpty) S := id rfl
@[simp] theorem tst_int (i : Int) : tstD (.int i) S = .ok (i != 0) S := id rfl
@[simp] theorem blD_bl (b : Bool) : blD (.bl b) S = .ok b S := id rfl
@[simp] theorem neg_int (i : Int) : negD (.int i) S = .ok (.int (-i)) S := id rfl
@[simp] theorem ixD_int (i : Int) : ixD (.int i) S = .ok (some i) S := id rfl
@[simp] theorem and_t (f : Sto → R D) : andD (.bl true) S f = f S := id rfl
@[simp] theorem and_f (f : Sto → R D) : andD (.bl false) S f = .ok (.bl false) S := id rfl
@[simp] theorem or_t (f : Sto → R D) : orD (.bl true) S f = .ok (.bl true) S := id rfl
@[simp] theorem or_f (f : Sto → R D) : orD (.bl false) S f = f S := id rfl
@[simp] theorem asg1_s (f : Ev → Sto → O) : asg1 (some ρ) S f = f ρ S := id rfl
@[simp] theorem optS_s (d : D) (f : D → O) : optS (some d) f = f d := id rfl
@[simp] theorem augS_v (d : D) (f : D → O) : augS (.val d) f = f d := id rfl
@[simp] theorem backD_s (ds : List D) (f : List D → Sto → O) : backD (some (ds, S)) f = f ds S := id rfl
@[simp] theorem appS_o (ds : List D) (f : List D → O) : appS (.own ds) f = f ds := id rfl
@[simp] theorem appN_o (ds : List D) (f : List D → O) (h : Nat → O) : appN (.own ds) S f h = f ds := id rfl
@[simp] theorem threeD_s (a b c : D) (f : D → D → D → O) : threeD [a, b, c] f = f a b c := id rfl
@[simp] theorem twoD_s (a b : D) (f : D → D → O) : twoD [a, b] f = f a b := id rfl
@[simp] theorem asgG_nm (n i : Nat) (d : D) (h : i < ρ.length) : asgG (n + 1) (.nm i) d ρ = some (ρ.set i (.val d)) := by simp [asgG, h]
@[simp] theorem asgG_tp (n : Nat) (ts : List Tg) (ds : List D) : asgG (n + 1) (.tp ts) (.tup ds) ρ = asgGs n ts ds ρ := by simp [asgG]
@[simp] theorem asgGs_nil (n : Nat) : asgGs (n + 1) [] [] ρ = some ρ := by simp [asgGs]
@[simp] theorem asgGs_cons (n : Nat) (t : Tg) (ts : List Tg) (d : D) (ds : List D) : asgGs (n + 1) (t :: ts) (d :: ds) ρ = (asgG n t d ρ).bind fun ρ1 => asgGs n ts ds ρ1 := by simp [asgGs]
/-! numbers -/
@[simp] theorem cp_eqi (i j : Int) : cmpD .Eq (.int i) (.int j) = some (i == j) := by simp [cmpD, D.eqv, D.plain, D.py, SeqAt.shaped, PyData.canLay0, PyData.depth, PyData.eqv]
@[simp] theorem cp_nei (i j : Int) : cmpD .NotEq (.int i) (.int j) = some (!(i == j)) := by simp [cmpD, D.eqv, D.plain, D.py, SeqAt.shaped, PyData.canLay0, PyData.depth, PyData.eqv]
@[simp] theorem cp_eqb (i j : Bool) : cmpD .Eq (.bl i) (.bl j) = some (i == j) := by simp [cmpD, D.eqv, D.plain, D.py, SeqAt.shaped, PyData.canLay0, PyData.depth, PyData.eqv]
@[simp] theorem cp_neb (i j : Bool) : cmpD .NotEq (.bl i) (.bl j) = some (!(i == j)) := by simp [cmpD, D.eqv, D.plain, D.py, SeqAt.shaped, PyData.canLay0, PyData.depth, PyData.eqv]
@[simp] theorem cp_lti (i j : Int) : cmpD .Lt (.int i) (.int j) = some (decide (i < j)) := id rfl
@[simp] theorem cp_lei (i j : Int) : cmpD .LtE (.int i) (.int j) = some (decide (i ≤ j)) := id rfl
@[simp] theorem cp_gti (i j : Int) : cmpD .Gt (.int i) (.int j) = some (decide (j < i)) := id rfl
@[simp] theorem cp_gei (i j : Int) : cmpD .GtE (.int i) (.int j) = some (decide (j ≤ i)) := id rfl
@[simp] theorem cp_isn : cmpD .Is .non .non = some true := id rfl
@[simp] theorem cp_ist (ds : List D) : cmpD .Is (.tup ds) .non = some false := id rfl
@[simp] theorem cp_isl (ds : List D) : cmpD .Is (.lst ds) .non = some false := id rfl
@[simp] theorem cp_isi (i : Int) : cmpD .Is (.int i) .non = some false := id rfl
@[simp] theorem bn_add (i j : Int) : binD .Add (.int i) (.int j) = some (.int (i + j)) := id rfl
@[simp] theorem bn_sub (i j : Int) : binD .Sub (.int i) (.int j) = some (.int (i - j)) := id rfl
theorem bn_mulL (i j : Int) (h : inR64 i = true) : binD .Mult (.int i) (.int j) = some (.int (i * j)) := by simp [binD, h]
theorem bn_mulR (i j : Int) (h : inR64 j = true) : binD .Mult (.int i) (.int j) = some (.int (i * j)) := by simp [binD, h]
theorem bn_fdiv (i j : Int) (h : 0 < j) (h2 : j < 1073741824) : binD .FloorDiv (.int i) (.int j) = some (.int (i / j)) := by simp [binD, h, h2]
theorem bn_mod (i j : Int) (h : 0 < j) : binD .Mod (.int i) (.int j) = some (.int (i % j)) := by simp [binD, h]
@[simp] theorem ca_len_t (ds : List D) : callD "len" [.tup ds] = some (.int ds.length) := id rfl
@[simp] theorem ca_len_l (ds : List D) : callD "len" [.lst ds] = some (.int ds.length) := id rfl
@[simp] theorem ca_int (i : Int) : callD "int" [.int i] = some (.int i) := id rfl
@[simp] theorem ca_abs (i : Int) : callD "abs" [.int i] = some (.int (if i < 0 then -i else i)) := id rfl
@[simp] theorem ca_sum (ds : List D) : callD "sum" [.lst ds] = (intsOf ds).map fun is => .int is.sum := id rfl
@[simp] theorem ca_tup_l (ds : List D) : callD "tuple" [.lst ds] = some (.tup ds) := id rfl
@[simp] theorem ca_tup_t (ds : List D) : callD "tuple" [.tup ds] = some (.tup ds) := id rfl
@[simp] theorem ca_max (i j : Int) : callD "max" [.int i, .int j] = some (.int (if j > i then j else i)) := id rfl
@[simp] theorem ca_min (i j : Int) : callD "min" [.int i, .int j] = some (.int (if j < i then j else i)) := id rfl
theorem ca_min_nat (i j : Nat) : callD "min" [.int (i : Int), .int (j : Int)] = some (.int ((min i j : Nat) : Int)) := by
  rw [ca_min]
  congr 2
  split <;> omega
@[simp] theorem ai_add (i j : Int) : augD .Add (.int i) (.int j) = some (.int (i + j)) := id rfl
@[simp] theorem ai_sub (i j : Int) : augD .Sub (.int i) (.int j) = some (.int (i - j)) := id rfl
theorem atI_nat {ds : List D} {i : Nat} {d : D} (h : ds[i]? = some d) : L2.atI ds (i : Int) = some d := by
  have hi := (List.getElem?_eq_some_iff.mp h).1
  simp [L2.atI, L2.ixN, hi]
  exact (List.getElem?_eq_some_iff.mp h).2
theorem it_nat {ds : List D} {i : Nat} {d : D} (h : ds[i]? = some d) : itemD (.tup ds) (.int (i : Int)) = some d := atI_nat h
theorem itl_nat {ds : List D} {i : Nat} {d : D} (h : ds[i]? = some d) : itemD (.lst ds) (.int (i : Int)) = some d := atI_nat h
@[simp] theorem it0 (d : D) (ds : List D) : itemD (.tup (d :: ds)) (.int 0) = some d := it_nat (i := 0) rfl
@[simp] theorem it1 (d e : D) (ds : List D) : itemD (.tup (d :: e :: ds)) (.int 1) = some e := it_nat (i := 1) rfl
@[simp] theorem it2 (d e f : D) (ds : List D) : itemD (.tup (d :: e :: f :: ds)) (.int 2) = some f := it_nat (i := 2) rfl
@[simp] theorem il0 (d : D) (ds : List D) : itemD (.lst (d :: ds)) (.int 0) = some d := itl_nat (i := 0) rfl
@[simp] theorem il1 (d e : D) (ds : List D) : itemD (.lst (d :: e :: ds)) (.int 1) = some e := itl_nat (i := 1) rfl
@[simp] theorem il2 (d e f : D) (ds : List D) : itemD (.lst (d :: e :: f :: ds)) (.int 2) = some f := itl_nat (i := 2) rfl
@[simp] theorem il3 (d e f g : D) (ds : List D) : itemD (.lst (d :: e :: f :: g :: ds)) (.int 3) = some g := itl_nat (i := 3) rfl
@[simp] theorem isi_int_i (i : Int) : isiD "int" (.int i) = some true := id rfl
@[simp] theorem isi_bool_i (i : Int) : isiD "bool" (.int i) = some false := id rfl
@[simp] theorem isi_tup_t (ds : List D) : isiD "tuple" (.tup ds) = some true := id rfl
@[simp] theorem tru_bl (b : Bool) : truD (.bl b) = some b := id rfl
@[simp] theorem tru_tup (ds : List D) : truD (.tup ds) = some (!ds.isEmpty) := id rfl
@[simp] theorem its_t (ds : List D) : itemsD (.tup ds) = some ds := id rfl
@[simp] theorem its_l (ds : List D) : itemsD (.lst ds) = some ds := id rfl
@[simp] theorem strM_s (z : Str) (f : Str → R D) : strM (.str z) f = f z := id rfl
@[simp] theorem its_s (z : Str) : itemsD (.str z) = some (z.cps.toList.map fun c => .str ⟨#[c]⟩) := id rfl
theorem cp_neD (a b : D) : cmpD .NotEq a b = (D.eqv a b).map (!·) := rfl
theorem cp_eqD (a b : D) : cmpD .Eq a b = D.eqv a b := rfl
@[simp] theorem line1 : (1 ≤ LINE) = True := by decide
@[simp] theorem line2 : (2 ≤ LINE) = True := by decide
@[simp] theorem line3 : (3 ≤ LINE) = True := by decide
/-! the box -/
@[simp] theorem sub0 (a b c d v : D) (ρ : Ev) (S : Sto) : subD (.ref 0) (.int 0) v ρ (.lst [a, b, c, d] :: S) = .nx ρ (.lst [v, b, c, d] :: S) := id rfl
@[simp] theorem sub1 (a b c d v : D) (ρ : Ev) (S : Sto) : subD (.ref 0) (.int 1) v ρ (.lst [a, b, c, d] :: S) = .nx ρ (.lst [a, v, c, d] :: S) := id rfl
@[simp] theorem sub2 (a b c d v : D) (ρ : Ev) (S : Sto) : subD (.ref 0) (.int 2) v ρ (.lst [a, b, c, d] :: S) = .nx ρ (.lst [a, b, v, d] :: S) := id rfl
end
end Lw
set_option maxHeartbeats 2000000
/-! LwT: labelled ordered trees as data; size, depth, order. -/
namespace Lw
open PySem
inductive Tr where
  | nd (a : Int) (ks : List Tr)
mutual
def enc : Tr → D
  | .nd a ks => .tup [.int a, .tup (encs ks)]
def encs : List Tr → List D
  | [] => []
  | t :: ts => enc t :: encs ts
end
mutual
def sz : Tr → Nat
  | .nd _ ks => 1 + szs ks
def szs : List Tr → Nat
  | [] => 0
  | t :: ts => sz t + szs ts
end
mutual
def dp : Tr → Nat
  | .nd _ ks => 1 + dps ks
def dps : List Tr → Nat
  | [] => 0
  | t :: ts => max (dp t) (dps ts)
end
mutual
def lab : Tr → Prop
  | .nd a ks => (0 ≤ a ∧ a ≤ 4) ∧ labs ks
def labs : List Tr → Prop
  | [] => True
  | t :: ts => lab t ∧ labs ts
end
def sgn (x y : Int) : Int := if x < y then -1 else 1
mutual
def cmpT : Tr → Tr → Int
  | .nd a ks, .nd b ls => if a = b then (if (szs ks : Int) = szs ls then cmpz ks ls else sgn (szs ks) (szs ls)) else sgn a b
def cmpz : List Tr → List Tr → Int
  | t :: ts, u :: us => if cmpT t u = 0 then cmpz ts us else cmpT t u
  | _, _ => 0
end
def cmps (d e : List Tr) : Int := if (szs d : Int) = szs e then cmpz d e else sgn (szs d) (szs e)
abbrev doc (ts : List Tr) : D := .tup (encs ts)
theorem encs_len : ∀ ts : List Tr, (encs ts).length = ts.length
  | [] => rfl
  | t :: ts => by simp [encs, encs_len ts]
theorem encs_get : ∀ (ts : List Tr) (i : Nat), (encs ts)[i]? = (ts[i]?).map enc
  | [], i => by simp [encs]
  | t :: ts, 0 => by simp [encs]
  | t :: ts, i + 1 => by simp [encs, encs_get ts i]
theorem encs_app : ∀ (ts us : List Tr), encs (ts ++ us) = encs ts ++ encs us
  | [], us => rfl
  | t :: ts, us => by simp [encs, encs_app ts us]
theorem szs_app : ∀ (ts us : List Tr), szs (ts ++ us) = szs ts + szs us
  | [], us => by simp [szs]
  | t :: ts, us => by simp [szs, szs_app ts us]; omega
theorem dps_app : ∀ (ts us : List Tr), dps (ts ++ us) = max (dps ts) (dps us)
  | [], us => by simp [dps]
  | t :: ts, us => by simp [dps, dps_app ts us]
theorem labs_app : ∀ (ts us : List Tr), labs (ts ++ us) ↔ labs ts ∧ labs us
  | [], us => by simp [labs]
  | t :: ts, us => by simp [labs, labs_app ts us, and_assoc]
theorem encs_take : ∀ (ts : List Tr) (i : Nat), encs (ts.take i) = (encs ts).take i
  | [], i => by simp [encs]
  | t :: ts, 0 => by simp [encs]
  | t :: ts, i + 1 => by simp [encs, encs_take ts i]
theorem encs_drop : ∀ (ts : List Tr) (i : Nat), encs (ts.drop i) = (encs ts).drop i
  | [], i => by simp [encs]
  | t :: ts, 0 => by simp [encs]
  | t :: ts, i + 1 => by simp [encs, encs_drop ts i]
theorem sz_pos : ∀ t : Tr, 0 < sz t
  | .nd a ks => by simp [sz]; omega
theorem szs_len : ∀ ts : List Tr, ts.length ≤ szs ts
  | [] => by simp
  | t :: ts => by
    have := sz_pos t
    have := szs_len ts
    simp [szs]; omega
mutual
theorem dp_sz : ∀ t : Tr, dp t ≤ sz t
  | .nd a ks => by
    have := dps_szs ks
    simp [dp, sz]; omega
theorem dps_szs : ∀ ts : List Tr, dps ts ≤ szs ts
  | [] => by simp [dps]
  | t :: ts => by
    have := dp_sz t
    have := dps_szs ts
    simp [dps, szs]; omega
end
theorem szs_zero : ∀ ts : List Tr, szs ts = 0 → ts = []
  | [], _ => rfl
  | t :: ts, h => by
    have := sz_pos t
    simp [szs] at h; omega
/-! the order -/
theorem sgn_ne (x y : Int) : sgn x y ≠ 0 := by unfold sgn; split <;> omega
theorem sgn_neg {x y : Int} (h : x ≠ y) : sgn y x = - sgn x y := by unfold sgn; split <;> split <;> omega
mutual
theorem cmpT_self : ∀ t : Tr, cmpT t t = 0
  | .nd a ks => by simp [cmpT, cmpz_self ks]
theorem cmpz_self : ∀ ts : List Tr, cmpz ts ts = 0
  | [] => by simp [cmpz]
  | t :: ts => by simp [cmpz, cmpT_self t, cmpz_self ts]
end
theorem cmps_self (d : List Tr) : cmps d d = 0 := by simp [cmps, cmpz_self]
mutual
theorem cmpT_neg : ∀ t u : Tr, cmpT u t = - cmpT t u
  | .nd a ks, .nd b ls => by
    simp only [cmpT]
    by_cases h : a = b
    · rw [if_pos h, if_pos h.symm]
      by_cases h2 : (szs ks : Int) = szs ls
      · rw [if_pos h2, if_pos h2.symm]; exact cmpz_neg ks ls
      · rw [if_neg h2, if_neg (fun z => h2 z.symm)]; exact sgn_neg h2
    · rw [if_neg h, if_neg (fun z => h z.symm)]; exact sgn_neg h
theorem cmpz_neg : ∀ ts us : List Tr, cmpz us ts = - cmpz ts us
  | [], [] => by simp [cmpz]
  | [], _ :: _ => by simp [cmpz]
  | _ :: _, [] => by simp [cmpz]
  | t :: ts, u :: us => by
    simp only [cmpz]
    have h1 := cmpT_neg t u
    have h2 := cmpz_neg ts us
    by_cases h : cmpT t u = 0
    · rw [if_pos h, if_pos (by omega), h2]
    · rw [if_neg h, if_neg (by omega), h1]
end
theorem cmps_neg (d e : List Tr) : cmps e d = - cmps d e := by
  unfold cmps
  by_cases h2 : (szs d : Int) = szs e
  · rw [if_pos h2, if_pos h2.symm]; exact cmpz_neg d e
  · rw [if_neg h2, if_neg (fun z => h2 z.symm)]; exact sgn_neg h2
mutual
theorem cmpT_eq : ∀ t u : Tr, cmpT t u = 0 → t = u
  | .nd a ks, .nd b ls => fun q => by
    simp only [cmpT] at q
    by_cases h : a = b
    · rw [if_pos h] at q
      by_cases h2 : (szs ks : Int) = szs ls
      · rw [if_pos h2] at q; rw [h, cmpz_eq ks ls q (by omega)]
      · rw [if_neg h2] at q; exact absurd q (sgn_ne _ _)
    · rw [if_neg h] at q; exact absurd q (sgn_ne _ _)
theorem cmpz_eq : ∀ ts us : List Tr, cmpz ts us = 0 → szs ts = szs us → ts = us
  | [], us => fun _ h => (szs_zero us (by simpa [szs] using h.symm)).symm
  | t :: ts, [] => fun _ h => by
    have := sz_pos t
    simp [szs] at h; omega
  | t :: ts, u :: us => fun q h => by
    simp only [cmpz] at q
    by_cases z : cmpT t u = 0
    · rw [if_pos z] at q
      have e := cmpT_eq t u z
      subst e
      rw [cmpz_eq ts us q (by simp [szs] at h; omega)]
    · rw [if_neg z] at q; exact absurd q z
end
theorem cmps_eq (d e : List Tr) : cmps d e = 0 ↔ d = e := by
  constructor
  · intro h
    unfold cmps at h
    by_cases h2 : (szs d : Int) = szs e
    · rw [if_pos h2] at h; exact cmpz_eq d e h (by omega)
    · rw [if_neg h2] at h; exact absurd h (sgn_ne _ _)
  · intro h; subst h; exact cmps_self d
/-! the same data -/
mutual
theorem eqv_enc : ∀ t u : Tr, PyData.eqv (enc t).py (enc u).py = true ↔ t = u
  | .nd a ks, .nd b ls => by
    simp [enc, D.py, D.pys, PyData.eqv, PyData.eqvAll, eqv_encs ks ls]
theorem eqv_encs : ∀ ts us : List Tr, PyData.eqvAll (D.pys (encs ts)) (D.pys (encs us)) = true ↔ ts = us
  | [], [] => by simp [encs, D.pys, PyData.eqvAll]
  | [], _ :: _ => by simp [encs, D.pys, PyData.eqvAll]
  | _ :: _, [] => by simp [encs, D.pys, PyData.eqvAll]
  | t :: ts, u :: us => by simp [encs, D.pys, PyData.eqvAll, eqv_enc t u, eqv_encs ts us]
end
mutual
theorem plain_enc : ∀ t : Tr, (enc t).plain = true ∧ (enc t).py.canLay0 = true ∧ (enc t).py.depth = 2 * dp t
  | .nd a ks => by
    obtain ⟨h1, h2, h3⟩ := plain_encs ks
    refine ⟨by simp [enc, D.plain, D.plains, h1], by simp [enc, D.py, D.pys, PyData.canLay0, PyData.canLayAll0, h2], ?_⟩
    simp [enc, D.py, D.pys, PyData.depth, PyData.depthAll, dp, h3]; omega
theorem plain_encs : ∀ ts : List Tr, D.plains (encs ts) = true ∧ PyData.canLayAll0 (D.pys (encs ts)) = true ∧ PyData.depthAll (D.pys (encs ts)) = 2 * dps ts
  | [] => by simp [encs, D.plains, D.pys, PyData.canLayAll0, PyData.depthAll, dps]
  | t :: ts => by
    obtain ⟨h1, h2, h3⟩ := plain_enc t
    obtain ⟨g1, g2, g3⟩ := plain_encs ts
    refine ⟨by simp [encs, D.plains, h1, g1], by simp [encs, D.pys, PyData.canLayAll0, h2, g2], ?_⟩
    simp [encs, D.pys, PyData.depthAll, dps, h3, g3] <;> omega
end
theorem doc_eqv (d e : List Tr) (h1 : dps d ≤ 31) (h2 : dps e ≤ 31) [Decidable (d = e)] : D.eqv (doc d) (doc e) = some (decide (d = e)) := by
  obtain ⟨a1, a2, a3⟩ := plain_encs d
  obtain ⟨b1, b2, b3⟩ := plain_encs e
  have s1 : SeqAt.shaped (doc d).py = true := by simp [SeqAt.shaped, D.py, PyData.canLay0, PyData.depth, a2, a3]; omega
  have s2 : SeqAt.shaped (doc e).py = true := by simp [SeqAt.shaped, D.py, PyData.canLay0, PyData.depth, b2, b3]; omega
  unfold D.eqv
  rw [s1, s2]
  simp only [D.plain, a1, b1, Bool.and_self, if_true]
  congr 1
  have q := eqv_encs d e
  have e1 : PyData.eqv (doc d).py (doc e).py = PyData.eqvAll (D.pys (encs d)) (D.pys (encs e)) := by simp [D.py, PyData.eqv]
  rw [e1]
  by_cases z : d = e
  · rw [decide_eq_true z]; exact q.mpr z
  · rw [decide_eq_false z]
    cases w : PyData.eqvAll (D.pys (encs d)) (D.pys (encs e)) with
    | false => rfl
    | true => exact absurd (q.mp w) z
/-! loops -/
theorem compL_enc {step : D → Sto → R (Option D)} {S : Sto} {f : Tr → D} : ∀ (ts : List Tr) (acc : List D), (∀ t ∈ ts, step (enc t) S = .ok (some (f t)) S) → compL step (encs ts) acc S = .ok (acc ++ ts.map f) S
  | [], acc, _ => by simp [encs, compL]
  | t :: ts, acc, h => by
    have ih := compL_enc (f := f) ts (acc ++ [f t]) fun u hu => h u (List.mem_cons_of_mem _ hu)
    simp [encs, compL, h t (List.mem_cons_self ..), ih]
theorem ints_sum (f : Tr → Int) : ∀ ts : List Tr, intsOf (ts.map fun t => D.int (f t)) = some (ts.map f)
  | [] => rfl
  | t :: ts => by simp [intsOf, ints_sum f ts]
theorem szs_sum : ∀ ts : List Tr, (ts.map fun t => (sz t : Int)).sum = szs ts
  | [] => by simp [szs]
  | t :: ts => by simp [szs, szs_sum ts]
def kids : Tr → List Tr
  | .nd _ ks => ks
def labl : Tr → Int
  | .nd a _ => a
theorem dps_mem {t : Tr} : ∀ {ts : List Tr}, t ∈ ts → dp t ≤ dps ts
  | [], h => by cases h
  | u :: ts, h => by
    rcases List.mem_cons.mp h with h | h
    · subst h; simp only [dps]; omega
    · have := dps_mem h; simp only [dps]; omega
theorem szs_mem {t : Tr} : ∀ {ts : List Tr}, t ∈ ts → sz t ≤ szs ts
  | [], h => by cases h
  | u :: ts, h => by
    rcases List.mem_cons.mp h with h | h
    · subst h; simp only [szs]; omega
    · have := szs_mem h; simp only [szs]; omega
theorem labs_mem {t : Tr} : ∀ {ts : List Tr}, t ∈ ts → labs ts → lab t
  | [], h, _ => by cases h
  | u :: ts, h, q => by
    rcases List.mem_cons.mp h with h | h
    · subst h; exact q.1
    · exact labs_mem h q.2
@[simp] theorem lc_some (fc : Ev → Sto → R Bool) (fe : Ev → Sto → R D) (S : Sto) (ρ : Ev) : lcStep fc fe S (some ρ) = (fc ρ S).noe.bind fun t S3 => if t then (fe ρ S3).bind fun y S4 => .ok (some y) S4 else .ok none S3 := id rfl
@[simp] theorem noe_ok {α : Type} (a : α) (S : Sto) : R.noe (.ok a S) = .ok a S := id rfl
@[simp] theorem wipe_nil (ρ : Ev) : wipeE ρ [] = ρ := id rfl
@[simp] theorem wipe_cons (ρ : Ev) (v : Nat) (vs : List Nat) : wipeE ρ (v :: vs) = (wipeE ρ vs).set v .un := id rfl
/-! slices, ranges -/
theorem cut_to {α : Type} (xs ys : List α) : cutD (xs ++ ys) none (some (xs.length : Int)) = xs := by
  unfold cutD
  rw [HT.sIx_none, HT.sIx_nat]
  simp
theorem cut_from {α : Type} (xs ys : List α) : cutD (xs ++ ys) (some (xs.length : Int)) none = ys := by
  unfold cutD
  rw [HT.sIx_none, HT.sIx_nat]
  simp
theorem sl_to (l : List Tr) (t : Tr) (r : List Tr) : sliceD (doc (l ++ t :: r)) none (some (l.length : Int)) = some (doc l) := by
  have e : encs (l ++ t :: r) = encs l ++ encs (t :: r) := encs_app _ _
  simp only [sliceD]
  rw [e, ← encs_len l, cut_to]
theorem sl_from (l : List Tr) (t : Tr) (r : List Tr) : sliceD (doc (l ++ t :: r)) (some ((l.length : Int) + 1)) none = some (doc r) := by
  have e : encs (l ++ t :: r) = encs (l ++ [t]) ++ encs r := by rw [← encs_app]; simp
  have e2 : (l.length : Int) + 1 = ((encs (l ++ [t])).length : Int) := by rw [encs_len]; simp
  simp only [sliceD]
  rw [e, e2, cut_from]
theorem it_mid (l : List Tr) (t : Tr) (r : List Tr) : itemD (doc (l ++ t :: r)) (.int (l.length : Int)) = some (enc t) := it_nat (by rw [encs_get]; simp)
theorem bn_addT (a b : List D) (h : a.length + b.length ≤ LINE) : binD .Add (.tup a) (.tup b) = some (.tup (a ++ b)) := by simp [binD, h]
theorem bn_addL (a b : List D) (h : a.length + b.length ≤ LINE) : binD .Add (.lst a) (.lst b) = some (.lst (a ++ b)) := by simp [binD, h]
def rng (j m : Nat) : List D := (List.range' j m).map fun (k : Nat) => D.int (k : Int)
theorem rng_z (j : Nat) : rng j 0 = [] := rfl
theorem rng_s (j m : Nat) : rng j (m + 1) = .int (j : Int) :: rng (j + 1) m := by simp [rng, List.range'_succ]
theorem rangeA1_nat (n : Nat) (S : Sto) (h : n ≤ 16777216) : rangeA1 [.int (n : Int)] S = .ok (rng 0 n) S := by
  have e : rangeD 0 (n : Int) = some (rng 0 n) := by
    unfold rangeD
    rw [if_pos (by unfold LINE; omega)]
    congr 1
    simp [rng, List.range_eq_range']
  show R.opt (rangeD 0 (n : Int)) S = _
  rw [e]; rfl
theorem split_at : ∀ (ts : List Tr) (i : Nat), i < ts.length → ∃ l t r, ts = l ++ t :: r ∧ l.length = i
  | [], i, h => by simp at h
  | t :: ts, 0, h => ⟨[], t, ts, rfl, rfl⟩
  | t :: ts, i + 1, h => by
    obtain ⟨l, u, r, e, hl⟩ := split_at ts i (by simpa using h)
    exact ⟨t :: l, u, r, by rw [e]; rfl, by simp [hl]⟩
end Lw
set_option maxHeartbeats 2000000
/-! LwS: schemas as data; sets of states; increasing lists. -/
namespace Lw
open PySem
/-! ### increasing lists -/
theorem inc_ext {α : Type} {lt : α → α → Prop} (irr : ∀ a, ¬ lt a a) (tr : ∀ a b c, lt a b → lt b c → lt a c) : ∀ {l1 l2 : List α}, l1.Pairwise lt → l2.Pairwise lt → (∀ x, x ∈ l1 ↔ x ∈ l2) → l1 = l2
  | [], [], _, _, _ => rfl
  | [], b :: u, _, _, h => absurd ((h b).mpr (List.mem_cons_self ..)) (by simp)
  | a :: t, [], _, _, h => absurd ((h a).mp (List.mem_cons_self ..)) (by simp)
  | a :: t, b :: u, h1, h2, h => by
    obtain ⟨p1, q1⟩ := List.pairwise_cons.mp h1
    obtain ⟨p2, q2⟩ := List.pairwise_cons.mp h2
    have ab : a = b := by
      rcases List.mem_cons.mp ((h a).mp (List.mem_cons_self ..)) with z | z
      · exact z
      · rcases List.mem_cons.mp ((h b).mpr (List.mem_cons_self ..)) with y | y
        · exact y.symm
        · exact absurd (tr _ _ _ (p1 b y) (p2 a z)) (irr a)
    subst ab
    rw [inc_ext irr tr q1 q2 fun x => ⟨fun m => ?_, fun m => ?_⟩]
    · rcases List.mem_cons.mp ((h x).mp (List.mem_cons_of_mem _ m)) with z | z
      · subst z; exact absurd (p1 x m) (irr x)
      · exact z
    · rcases List.mem_cons.mp ((h x).mpr (List.mem_cons_of_mem _ m)) with z | z
      · subst z; exact absurd (p2 x m) (irr x)
      · exact z
theorem inc_nat {l1 l2 : List Nat} (h1 : l1.Pairwise (· < ·)) (h2 : l2.Pairwise (· < ·)) (h : ∀ x, x ∈ l1 ↔ x ∈ l2) : l1 = l2 := inc_ext (lt := (· < ·)) (fun a => Nat.lt_irrefl a) (fun a b c => Nat.lt_trans) h1 h2 h
theorem strict_of {α : Type} {le lt : α → α → Prop} (hs : ∀ a b, le a b → a ≠ b → lt a b) : ∀ {l : List α}, l.Pairwise le → l.Nodup → l.Pairwise lt
  | [], _, _ => .nil
  | a :: l, h1, h2 => by
    obtain ⟨p1, q1⟩ := List.pairwise_cons.mp h1
    obtain ⟨p2, q2⟩ := List.nodup_cons.mp h2
    exact List.pairwise_cons.mpr ⟨fun b hb => hs a b (p1 b hb) (fun z => p2 (z ▸ hb)), strict_of hs q1 q2⟩
/-! ### a dict's keys -/
theorem mem_putI {ks : List Int} {i x : Int} : x ∈ putI ks i ↔ x ∈ ks ∨ x = i := by
  unfold putI
  split
  · rename_i h
    exact ⟨.inl, fun z => z.elim id fun e => e ▸ h⟩
  · rw [List.mem_append, List.mem_singleton]
theorem nodup_putI {ks : List Int} {i : Int} (h : ks.Nodup) : (putI ks i).Nodup := by
  unfold putI
  split
  · exact h
  · rename_i q
    rw [List.nodup_append]
    refine ⟨h, by simp, fun a ha b hb => ?_⟩
    rw [List.mem_singleton] at hb
    subst hb
    intro z
    exact q (z ▸ ha)
theorem mem_fold {x : Int} : ∀ (l acc : List Int), x ∈ l.foldl putI acc ↔ x ∈ acc ∨ x ∈ l
  | [], acc => by simp
  | i :: l, acc => by
    rw [List.foldl_cons, mem_fold l, mem_putI, List.mem_cons, or_assoc]
theorem nodup_fold : ∀ (l acc : List Int), acc.Nodup → (l.foldl putI acc).Nodup
  | [], _, h => h
  | i :: l, acc, h => nodup_fold l _ (nodup_putI h)
theorem mem_dedup {x : Int} {l : List Int} : x ∈ dedupI l ↔ x ∈ l := by
  unfold dedupI
  rw [mem_fold]; simp
theorem nodup_dedup (l : List Int) : (dedupI l).Nodup := nodup_fold l [] .nil
/-! ### numbers of states -/
abbrev ofN (n : Nat) : Int := (n : Int)
def natD (l : List Nat) : List D := l.map fun n : Nat => D.int (n : Int)
abbrev nset (l : List Nat) : D := .tup (natD l)
theorem natD_eq (l : List Nat) : natD l = (l.map ofN).map D.int := by
  rw [List.map_map]
  rfl
@[simp] theorem natD_nil : natD [] = [] := id rfl
@[simp] theorem natD_cons (n : Nat) (l : List Nat) : natD (n :: l) = .int (n : Int) :: natD l := id rfl
theorem natD_app (l m : List Nat) : natD (l ++ m) = natD l ++ natD m := by simp [natD]
@[simp] theorem natD_len (l : List Nat) : (natD l).length = l.length := by simp [natD]
theorem ofN_inj {a b : Nat} (h : ofN a = ofN b) : a = b := Int.ofNat.inj h
theorem plains_ints : ∀ l : List Int, D.plains (l.map D.int) = true ∧ D.pys (l.map D.int) = l.map PyData.int ∧ PyData.canLayAll0 (l.map PyData.int) = true ∧ PyData.depthAll (l.map PyData.int) = 0
  | [] => by simp [D.plains, D.pys, PyData.canLayAll0, PyData.depthAll]
  | n :: l => by
    obtain ⟨h1, h2, h3, h4⟩ := plains_ints l
    simp [D.plains, D.plain, D.pys, D.py, PyData.canLayAll0, PyData.canLay0, PyData.depthAll, PyData.depth, h1, h2, h3, h4]
theorem eqv_ints : ∀ l m : List Int, PyData.eqvAll (l.map PyData.int) (m.map PyData.int) = decide (l = m)
  | [], [] => by simp [PyData.eqvAll]
  | [], _ :: _ => by simp [PyData.eqvAll]
  | _ :: _, [] => by simp [PyData.eqvAll]
  | a :: l, b :: m => by
    by_cases h : a = b <;> simp [PyData.eqvAll, PyData.eqv, eqv_ints l m, h]
theorem map_ofN {l m : List Nat} : l.map ofN = m.map ofN ↔ l = m := by
  constructor
  · intro h
    have e : ∀ l : List Nat, (l.map ofN).map Int.toNat = l := fun l => by simp [Function.comp_def, ofN]
    rw [← e l, h, e m]
  · intro h; rw [h]
theorem eqv_nset (l m : List Nat) : D.eqv (nset l) (nset m) = some (decide (l = m)) := by
  obtain ⟨a1, a2, a3, a4⟩ := plains_ints (l.map ofN)
  obtain ⟨b1, b2, b3, b4⟩ := plains_ints (m.map ofN)
  have p1 : D.plain (nset l) = true := by simp only [nset, natD_eq, D.plain, a1]
  have p2 : D.plain (nset m) = true := by simp only [nset, natD_eq, D.plain, b1]
  have y1 : (nset l).py = .tuple ((l.map ofN).map PyData.int) := by simp only [nset, natD_eq, D.py, a2]
  have y2 : (nset m).py = .tuple ((m.map ofN).map PyData.int) := by simp only [nset, natD_eq, D.py, b2]
  have s1 : SeqAt.shaped (nset l).py = true := by rw [y1]; simp only [SeqAt.shaped, PyData.canLay0, PyData.depth, a3, a4]; rfl
  have s2 : SeqAt.shaped (nset m).py = true := by rw [y2]; simp only [SeqAt.shaped, PyData.canLay0, PyData.depth, b3, b4]; rfl
  unfold D.eqv
  rw [p1, p2, s1, s2]
  simp only [Bool.and_self, if_true]
  rw [y1, y2]
  congr 1
  have z : PyData.eqv (.tuple ((l.map ofN).map PyData.int)) (.tuple ((m.map ofN).map PyData.int)) = PyData.eqvAll ((l.map ofN).map PyData.int) ((m.map ofN).map PyData.int) := by simp only [PyData.eqv]
  rw [z, eqv_ints]
  exact decide_eq_decide.mpr map_ofN
theorem cp_ns_eq (l m : List Nat) : cmpD .Eq (nset l) (nset m) = some (decide (l = m)) := eqv_nset l m
theorem cp_ns_ne (l m : List Nat) : cmpD .NotEq (nset l) (nset m) = some (!decide (l = m)) := by rw [cp_neD, eqv_nset]; rfl
theorem any_ints (a : Int) : ∀ l : List Int, ((l.map PyData.int).any fun z => PyData.eqv z (.int a)) = decide (a ∈ l)
  | [] => by simp
  | b :: l => by
    simp only [List.map_cons, List.any_cons, any_ints a l, PyData.eqv, List.mem_cons, Bool.decide_or]
    congr 1
    by_cases h : b = a
    · simp [h]
    · rw [decide_eq_false (fun z => h z.symm)]; simp [h]
theorem shaped_int (a : Int) : SeqAt.shaped (.int a) = true := by simp [SeqAt.shaped, PyData.canLay0, PyData.depth]
theorem mem_ofN {a : Nat} {l : List Nat} : ofN a ∈ l.map ofN ↔ a ∈ l := by
  rw [List.mem_map]
  exact ⟨fun ⟨b, h1, h2⟩ => ofN_inj h2 ▸ h1, fun h => ⟨a, h, rfl⟩⟩
theorem in_nset (a : Nat) (l : List Nat) : cmpD .In (.int (a : Int)) (nset l) = some (decide (a ∈ l)) := by
  obtain ⟨a1, a2, a3, a4⟩ := plains_ints (l.map ofN)
  show inD (.int (a : Int)) (.tup (natD l)) = _
  simp only [inD, natD_eq, D.plain, D.py, a1, a2, a3, shaped_int, Bool.and_self, if_true, any_ints]
  congr 1
  exact decide_eq_decide.mpr mem_ofN
theorem in_dic (a : Nat) (l : List Nat) : cmpD .In (.int (a : Int)) (.dic (dedupI (keysOf (natD l)))) = some (decide (a ∈ l)) := by
  have e : keysOf (natD l) = l.map ofN := by rw [natD_eq, keys_ints]
  show some ((dedupI (keysOf (natD l))).any fun j => decide (j = (a : Int))) = _
  rw [e]
  congr 1
  rw [Bool.eq_iff_iff, List.any_eq_true, decide_eq_true_eq]
  constructor
  · rintro ⟨j, h1, h2⟩
    rw [of_decide_eq_true h2, mem_dedup] at h1
    exact mem_ofN.mp h1
  · intro h
    exact ⟨(a : Int), mem_dedup.mpr (mem_ofN.mpr h), by simp⟩
/-- the increasing list of a list's numbers -/
def ris (l : List Nat) : List Nat := (List.range (l.foldr max 0 + 1)).filter fun x => decide (x ∈ l)
theorem le_fold {x : Nat} : ∀ {l : List Nat}, x ∈ l → x ≤ l.foldr max 0
  | y :: l, h => by
    rcases List.mem_cons.mp h with z | z
    · subst z; simp only [List.foldr_cons]; omega
    · have := le_fold z
      simp only [List.foldr_cons]; omega
theorem mem_ris {x : Nat} {l : List Nat} : x ∈ ris l ↔ x ∈ l := by
  unfold ris
  rw [List.mem_filter, List.mem_range, decide_eq_true_eq]
  exact ⟨fun h => h.2, fun h => ⟨Nat.lt_succ_of_le (le_fold h), h⟩⟩
theorem inc_ris (l : List Nat) : (ris l).Pairwise (· < ·) := List.pairwise_lt_range.filter _
theorem inc_filter (n : Nat) (p : Nat → Bool) : ((List.range n).filter p).Pairwise (· < ·) := List.pairwise_lt_range.filter _
theorem ris_sort (l : List Nat) : (dedupI (l.map ofN)).mergeSort (fun a b => decide (a ≤ b)) = (ris l).map ofN := by
  refine inc_ext (lt := (· < ·)) (fun a => Int.lt_irrefl a) (fun a b c => Int.lt_trans) ?_ ?_ fun x => ?_
  · refine strict_of (le := fun a b => decide (a ≤ b) = true) (fun a b h1 h2 => ?_) (List.pairwise_mergeSort (fun a b c h1 h2 => ?_) (fun a b => ?_) _) ((List.mergeSort_perm _ _).nodup_iff.mpr (nodup_dedup _))
    · have := of_decide_eq_true h1
      omega
    · rw [decide_eq_true_eq] at *
      omega
    · rw [Bool.or_eq_true, decide_eq_true_eq, decide_eq_true_eq]
      omega
  · rw [List.pairwise_map]
    exact (inc_ris l).imp fun h => by show (_ : Int) < _; exact Int.ofNat_lt.mpr h
  · rw [List.mem_mergeSort, mem_dedup]
    simp only [List.mem_map, mem_ris]
theorem sortD_ints (l : List Int) : sortD (l.map D.int) = some ((l.mergeSort fun a b => decide (a ≤ b)).map D.int) := by
  obtain ⟨a1, _, _, _⟩ := plains_ints l
  have c2 : ((l.map D.int).all fun d => SeqAt.shaped d.py) = true := by
    rw [List.all_eq_true]
    intro d hd
    obtain ⟨i, _, rfl⟩ := List.mem_map.mp hd
    exact shaped_int i
  have c3 : ((l.map D.int).all fun a => (l.map D.int).all fun b => PySem.W.alike a.py b.py) = true := by
    rw [List.all_eq_true]
    intro d hd
    obtain ⟨i, _, rfl⟩ := List.mem_map.mp hd
    rw [List.all_eq_true]
    intro e he
    obtain ⟨j, _, rfl⟩ := List.mem_map.mp he
    simp [D.py, PySem.W.alike]
  have c4 : sortableB (l.map D.int) = true := by
    unfold sortableB
    rw [Bool.or_eq_true]
    right
    rw [List.all_eq_true]
    intro d hd
    obtain ⟨i, _, rfl⟩ := List.mem_map.mp hd
    rfl
  unfold sortD
  rw [a1, c2, c3, c4]
  simp only [Bool.and_self, if_true]
  congr 1
  refine (List.map_mergeSort (fun a _ b _ => ?_)).symm
  have z := congrFun (congrFun (PySem.W.dataLe_int (fun i : Int => i)) a) b
  exact z.symm
theorem ca_sorted_ris (l : List Nat) : callD "sorted" [.lst ((dedupI (keysOf (natD l))).map D.int)] = some (.lst (natD (ris l))) := by
  have e : keysOf (natD l) = l.map ofN := by rw [natD_eq, keys_ints]
  show (sortD ((dedupI (keysOf (natD l))).map D.int)).map D.lst = _
  rw [sortD_ints, e, ris_sort, natD_eq]
  rfl
theorem ca_list_dic (ks : List Int) : callD "list" [.dic ks] = some (.lst (ks.map D.int)) := id rfl
@[simp] theorem vw_dic (S : Sto) (ks : List Int) : view S (.dic ks) = .dic ks := id rfl
/-! ### schemas -/
abbrev Rul := Int × Nat × Nat
abbrev Sta := Bool × List Rul
def encR (r : Rul) : D := .tup [.int r.1, .int (r.2.1 : Int), .int (r.2.2 : Int)]
def encQ (q : Sta) : D := .tup [.bl q.1, .tup (q.2.map encR)]
abbrev sch (s : List Sta) : D := .tup (s.map encQ)
def ltR (p r : Rul) : Prop := p.1 < r.1 ∨ (p.1 = r.1 ∧ (p.2.1 < r.2.1 ∨ (p.2.1 = r.2.1 ∧ p.2.2 < r.2.2)))
instance (p r : Rul) : Decidable (ltR p r) := by unfold ltR; exact inferInstance
theorem ltR_irr (r : Rul) : ¬ ltR r r := by unfold ltR; omega
theorem ltR_tr {a b c : Rul} (h1 : ltR a b) (h2 : ltR b c) : ltR a c := by unfold ltR at *; omega
theorem ltR_tot {a b : Rul} (h : ¬ ltR a b) : ltR b a ∨ a = b := by
  by_cases e : ltR b a
  · exact .inl e
  · refine .inr ?_
    unfold ltR at *
    obtain ⟨a1, a2, a3⟩ := a
    obtain ⟨b1, b2, b3⟩ := b
    simp only at *
    have : a1 = b1 ∧ a2 = b2 ∧ a3 = b3 := by omega
    simp [this]
theorem dec_not {P Q : Prop} [Decidable P] [Decidable Q] (h : P ↔ ¬ Q) : decide P = !decide Q := by
  by_cases q : Q
  · rw [decide_eq_true q, decide_eq_false (fun p => h.mp p q)]; rfl
  · rw [decide_eq_false q, decide_eq_true (h.mpr q)]; rfl
theorem cp_le_R (r p : Rul) : cmpD .LtE (encR r) (encR p) = some (!decide (ltR p r)) := by
  obtain ⟨r1, r2, r3⟩ := r
  obtain ⟨p1, p2, p3⟩ := p
  simp only [encR, cmpD, intsOf, Option.map_some, Option.bind_some, leInts, List.length_cons, List.length_nil]
  congr 1
  simp only [show min (0 + 1 + 1 + 1) (0 + 1 + 1 + 1) = 3 from rfl, Ob.lexAt, List.getD_cons_zero, List.getD_cons_succ]
  split
  · rename_i h1
    rw [decide_eq_true_eq] at h1
    split
    · rename_i h2
      rw [decide_eq_true_eq] at h2
      split
      · rename_i h3
        rw [decide_eq_true_eq] at h3
        exact dec_not (by unfold ltR; dsimp only; omega)
      · rename_i h3
        rw [decide_eq_true_eq] at h3
        exact dec_not (by unfold ltR; dsimp only; omega)
    · rename_i h2
      rw [decide_eq_true_eq] at h2
      exact dec_not (by unfold ltR; dsimp only; omega)
  · rename_i h1
    rw [decide_eq_true_eq] at h1
    exact dec_not (by unfold ltR; dsimp only; omega)
theorem eqv_R (r p : Rul) : PyData.eqv (encR r).py (encR p).py = decide (r = p) := by
  obtain ⟨r1, r2, r3⟩ := r
  obtain ⟨p1, p2, p3⟩ := p
  simp [encR, D.py, D.pys, PyData.eqv, PyData.eqvAll]
  rw [Bool.eq_iff_iff]
  simp
  omega
theorem shaped_R (r : Rul) : SeqAt.shaped (encR r).py = true := by
  simp [encR, D.py, D.pys, SeqAt.shaped, PyData.canLay0, PyData.canLayAll0, PyData.depth, PyData.depthAll]
theorem plains_R : ∀ rs : List Rul, D.plains (rs.map encR) = true ∧ PyData.canLayAll0 (D.pys (rs.map encR)) = true
  | [] => by simp [D.plains, D.pys, PyData.canLayAll0]
  | r :: rs => by
    obtain ⟨h1, h2⟩ := plains_R rs
    simp [D.plains, D.plain, D.pys, PyData.canLayAll0, h1, h2]
    simp [encR, D.plain, D.plains, D.py, D.pys, PyData.canLay0, PyData.canLayAll0]
theorem any_R (r : Rul) : ∀ rs : List Rul, ((D.pys (rs.map encR)).any fun z => PyData.eqv z (encR r).py) = decide (r ∈ rs)
  | [] => by simp [D.pys]
  | p :: rs => by
    simp only [List.map_cons, D.pys, List.any_cons, any_R r rs, eqv_R, List.mem_cons, Bool.decide_or]
    congr 1
    exact decide_eq_decide.mpr ⟨fun z => z.symm, fun z => z.symm⟩
theorem notin_R (r : Rul) (rs : List Rul) : cmpD .NotIn (encR r) (.lst (rs.map encR)) = some (!decide (r ∈ rs)) := by
  obtain ⟨a1, a2⟩ := plains_R rs
  show (inD (encR r) (.lst (rs.map encR))).map (!·) = _
  have p1 : (encR r).plain = true := by simp [encR, D.plain, D.plains]
  simp only [inD, p1, a1, a2, shaped_R, Bool.and_self, if_true, any_R, Option.map_some]
def leR (a b : Rul) : Bool := !decide (ltR b a)
def srt (rs : List Rul) : List Rul := rs.mergeSort leR
theorem dataLt_R (r p : Rul) : PySem.W.dataLt (encR r).py (encR p).py = decide (ltR r p) := by
  obtain ⟨r1, r2, r3⟩ := r
  obtain ⟨p1, p2, p3⟩ := p
  have al : ∀ i j : Int, PySem.W.alike (.int i) (.int j) = true := fun i j => by simp [PySem.W.alike]
  simp only [encR, D.py, D.pys]
  rw [PySem.W.dataLt_tuple, PySem.W.dataLt_cons (al _ _), PySem.W.dataLt_cons (al _ _), PySem.W.dataLt_cons (al _ _), PySem.W.dataLt_int, PySem.W.dataLt_int, PySem.W.dataLt_int]
  have e : PyProof.Rows.lexLt PyProof.Rows.itemOrd (PySem.W.keyToksAll []) (PySem.W.keyToksAll []) = false := PyProof.Rows.lex_irrefl _
  rw [e]
  simp only [PyData.eqv, beq_iff_eq, ltR]
  by_cases h1 : r1 = p1 <;> by_cases h2 : (r2 : Int) = p2 <;> by_cases h3 : (r3 : Int) = p3 <;> simp [h1, h2, h3] <;> first | omega | (rw [Bool.eq_iff_iff]; simp; omega) | skip
theorem alike_R (r p : Rul) : PySem.W.alike (encR r).py (encR p).py = true := by simp [encR, D.py, D.pys, PySem.W.alike, PySem.W.alikeAll]
theorem sortD_R (rs : List Rul) : sortD (rs.map encR) = some ((srt rs).map encR) := by
  obtain ⟨a1, _⟩ := plains_R rs
  have c2 : ((rs.map encR).all fun d => SeqAt.shaped d.py) = true := by
    rw [List.all_eq_true]
    intro d hd
    obtain ⟨i, _, rfl⟩ := List.mem_map.mp hd
    exact shaped_R i
  have c3 : ((rs.map encR).all fun a => (rs.map encR).all fun b => PySem.W.alike a.py b.py) = true := by
    rw [List.all_eq_true]
    intro d hd
    obtain ⟨i, _, rfl⟩ := List.mem_map.mp hd
    rw [List.all_eq_true]
    intro e he
    obtain ⟨j, _, rfl⟩ := List.mem_map.mp he
    exact alike_R i j
  have c4 : sortableB (rs.map encR) = true := by
    unfold sortableB
    rw [Bool.or_eq_true]
    left
    rw [List.all_eq_true]
    intro d hd
    obtain ⟨i, _, rfl⟩ := List.mem_map.mp hd
    rfl
  unfold sortD
  rw [a1, c2, c3, c4]
  simp only [Bool.and_self, if_true]
  congr 1
  refine (List.map_mergeSort (fun a _ b _ => ?_)).symm
  have z := congrFun (congrFun (PySem.W.dataLe_eq false D.py) (encR a)) (encR b)
  rw [z]
  show leR a b = !(PySem.W.dataLt (encR b).py (encR a).py)
  rw [dataLt_R]
  rfl
theorem ca_sorted_R (rs : List Rul) : callD "sorted" [.lst (rs.map encR)] = some (.lst ((srt rs).map encR)) := by
  show (sortD (rs.map encR)).map D.lst = _
  rw [sortD_R]; rfl
theorem mem_srt {r : Rul} {rs : List Rul} : r ∈ srt rs ↔ r ∈ rs := List.mem_mergeSort
theorem len_srt (rs : List Rul) : (srt rs).length = rs.length := List.length_mergeSort _
theorem inc_srt {rs : List Rul} (h : rs.Nodup) : (srt rs).Pairwise ltR := by
  refine strict_of (le := fun a b => leR a b = true) (fun a b h1 h2 => ?_) (List.pairwise_mergeSort (fun a b c h1 h2 => ?_) (fun a b => ?_) _) ((List.mergeSort_perm _ _).nodup_iff.mpr h)
  · unfold leR at h1
    rw [Bool.not_eq_true', decide_eq_false_iff_not] at h1
    rcases ltR_tot h1 with z | z
    · exact z
    · exact absurd z.symm h2
  · unfold leR at *
    rw [Bool.not_eq_true', decide_eq_false_iff_not] at *
    intro z
    rcases ltR_tot h1 with y | y
    · exact h2 (ltR_tr z y)
    · subst y; exact h2 z
  · unfold leR
    rw [Bool.or_eq_true, Bool.not_eq_true', Bool.not_eq_true', decide_eq_false_iff_not, decide_eq_false_iff_not]
    by_cases z : ltR b a
    · exact .inr fun y => ltR_irr a (ltR_tr y z)
    · exact .inl z
/-! ### the states that allow a document -/
abbrev noS : Sta := (false, [])
def endsS (s : List Sta) : List Nat := (List.range s.length).filter fun q => (s.getD q noS).1
def fitR (a : Int) (K R : List Nat) (r : Rul) : Bool := decide (r.1 = a) && (decide (r.2.1 ∈ K) && decide (r.2.2 ∈ R))
def stepS (s : List Sta) (a : Int) (K R : List Nat) : List Nat := (List.range s.length).filter fun q => (s.getD q noS).2.any (fitR a K R)
mutual
def stN (s : List Sta) : Tr → List Nat → List Nat
  | .nd a ks, R => stepS s a (stL s ks) R
def stL (s : List Sta) : List Tr → List Nat
  | [] => endsS s
  | t :: ts => stN s t (stL s ts)
end
theorem stL_cons (s : List Sta) (a : Int) (ks ts : List Tr) : stL s (.nd a ks :: ts) = stepS s a (stL s ks) (stL s ts) := by simp [stL, stN]
theorem stL_inc (s : List Sta) (ts : List Tr) : (stL s ts).Pairwise (· < ·) := by
  cases ts with
  | nil => exact inc_filter _ _
  | cons t ts =>
    cases t
    rw [stL_cons]
    exact inc_filter _ _
theorem stL_lt {s : List Sta} {ts : List Tr} {q : Nat} (h : q ∈ stL s ts) : q < s.length := by
  cases ts with
  | nil => exact List.mem_range.mp (List.mem_filter.mp h).1
  | cons t ts =>
    cases t
    rw [stL_cons] at h
    exact List.mem_range.mp (List.mem_filter.mp h).1
theorem stL_len (s : List Sta) (ts : List Tr) : (stL s ts).length ≤ s.length := by
  have z : ∀ p : Nat → Bool, ((List.range s.length).filter p).length ≤ s.length := fun p => by
    have := List.length_filter_le p (List.range s.length)
    rw [List.length_range] at this
    exact this
  cases ts with
  | nil => exact z _
  | cons t ts =>
    cases t
    rw [stL_cons]
    exact z _
theorem mem_stepS {s : List Sta} {a : Int} {K R : List Nat} {q : Nat} : q ∈ stepS s a K R ↔ q < s.length ∧ ∃ r ∈ (s.getD q noS).2, r.1 = a ∧ r.2.1 ∈ K ∧ r.2.2 ∈ R := by
  unfold stepS fitR
  rw [List.mem_filter, List.mem_range, List.any_eq_true]
  simp only [Bool.and_eq_true, decide_eq_true_eq]
theorem mem_endsS {s : List Sta} {q : Nat} : q ∈ endsS s ↔ q < s.length ∧ (s.getD q noS).1 = true := by
  unfold endsS
  rw [List.mem_filter, List.mem_range]
/-- the pairs of the rules for a label -/
def hvR (k : Nat) (a : Int) (K : List Nat) (rs : List Rul) : List (Nat × Nat) := (rs.filter fun r => decide (r.1 = a) && decide (r.2.1 ∈ K)).map fun r => (k, r.2.2)
def hvS (a : Int) (K : List Nat) : Nat → List Sta → List (Nat × Nat)
  | _, [] => []
  | k, st :: s => hvR k a K st.2 ++ hvS a K (k + 1) s
theorem mem_hvS {a : Int} {K : List Nat} {p : Nat × Nat} : ∀ {s : List Sta} {k : Nat}, p ∈ hvS a K k s ↔ ∃ i, i < s.length ∧ p.1 = k + i ∧ ∃ r ∈ (s.getD i noS).2, r.1 = a ∧ r.2.1 ∈ K ∧ r.2.2 = p.2
  | [], k => by simp [hvS]
  | st :: s, k => by
    have ih := mem_hvS (a := a) (K := K) (p := p) (s := s) (k := k + 1)
    show p ∈ hvR k a K st.2 ++ hvS a K (k + 1) s ↔ _
    rw [List.mem_append, ih]
    constructor
    · rintro (h | ⟨i, h1, h2, h3⟩)
      · obtain ⟨r, hr, rfl⟩ := List.mem_map.mp h
        obtain ⟨hr1, hr2⟩ := List.mem_filter.mp hr
        rw [Bool.and_eq_true, decide_eq_true_eq, decide_eq_true_eq] at hr2
        exact ⟨0, by simp, by simp, r, by simpa using hr1, hr2.1, hr2.2, rfl⟩
      · exact ⟨i + 1, by simpa using h1, by omega, by simpa using h3⟩
    · rintro ⟨i, h1, h2, r, h3, h4, h5, h6⟩
      cases i with
      | zero =>
        refine .inl (List.mem_map.mpr ⟨r, List.mem_filter.mpr ⟨by simpa using h3, by simp [h4, h5]⟩, ?_⟩)
        obtain ⟨p1, p2⟩ := p
        simp at h2 h6
        rw [h2, h6]
      | succ i => exact .inr ⟨i, by simpa using h1, by omega, r, by simpa using h3, h4, h5, h6⟩
theorem ris_step (s : List Sta) (a : Int) (K R : List Nat) : ris (((hvS a K 0 s).filter fun p => decide (p.2 ∈ R)).map (·.1)) = stepS s a K R := by
  refine inc_nat (inc_ris _) (inc_filter _ _) fun q => ?_
  rw [mem_ris, List.mem_map]
  have e : q ∈ (List.range s.length).filter (fun q => (s.getD q noS).2.any (fitR a K R)) ↔ q ∈ stepS s a K R := Iff.rfl
  rw [mem_stepS]
  constructor
  · rintro ⟨p, hp, rfl⟩
    obtain ⟨h1, h2⟩ := List.mem_filter.mp hp
    obtain ⟨i, hi, hpi, r, hr, g1, g2, g3⟩ := mem_hvS.mp h1
    rw [decide_eq_true_eq] at h2
    have e2 : p.1 = i := by omega
    rw [e2]
    exact ⟨hi, r, hr, g1, g2, by rw [g3]; exact h2⟩
  · rintro ⟨hq, r, hr, g1, g2, g3⟩
    exact ⟨(q, r.2.2), List.mem_filter.mpr ⟨mem_hvS.mpr ⟨q, hq, by simp, r, hr, g1, g2, rfl⟩, by simpa using g3⟩, rfl⟩
def rulesN (s : List Sta) : Nat := (s.map fun st => st.2.length).sum
theorem hvS_len (a : Int) (K : List Nat) : ∀ (s : List Sta) (k : Nat), (hvS a K k s).length ≤ rulesN s
  | [], k => by simp [hvS, rulesN]
  | st :: s, k => by
    have ih := hvS_len a K s (k + 1)
    have z : (hvR k a K st.2).length ≤ st.2.length := by
      unfold hvR
      rw [List.length_map]
      exact List.length_filter_le _ _
    show (hvR k a K st.2 ++ hvS a K (k + 1) s).length ≤ _
    rw [List.length_append]
    simp only [rulesN, List.map_cons, List.sum_cons] at *
    omega
/-! ### schemas within the bounds -/
structure RulesOk (n : Nat) (rs : List Rul) : Prop where
  inc : rs.Pairwise ltR
  ok : ∀ r ∈ rs, (0 ≤ r.1 ∧ r.1 ≤ 4) ∧ r.2.1 < n ∧ r.2.2 < n
structure SchOk (s : List Sta) : Prop where
  lo : 1 ≤ s.length
  hi : s.length ≤ 60
  rules : ∀ st ∈ s, RulesOk s.length st.2
  many : rulesN s ≤ 2000
@[simp] theorem isi_bool_b (b : Bool) : isiD "bool" (.bl b) = some true := id rfl
@[simp] theorem isi_int_b (b : Bool) : isiD "int" (.bl b) = some true := id rfl
theorem repr_bl (b : Bool) : callD "repr" [.bl b] = some (.str (if b then "True" else "False")) := id rfl
theorem eqv_str (x y : Str) (hx : PyData.strOk x = true) (hy : PyData.strOk y = true) : D.eqv (.str x) (.str y) = some (x == y) := by simp [D.eqv, D.plain, D.py, SeqAt.shaped, PyData.canLay0, PyData.depth, PyData.eqv, hx, hy]
theorem cp_str_ne (x : Str) (hx : PyData.strOk x = true) : cmpD .NotEq (.str x) (.str x) = some false := by rw [cp_neD, eqv_str x x hx hx]; simp
theorem cp_str_eq (x : Str) (hx : PyData.strOk x = true) : cmpD .Eq (.str x) (.str x) = some true := by rw [cp_eqD, eqv_str x x hx hx]; simp
/-- a text that repr gives -/
def reprB (d : D) : Bool := match reprD d with
  | some x => PyData.strOk x
  | none => false
theorem reprB_ok {d : D} (h : reprB d = true) : ∃ x, callD "repr" [d] = some (.str x) ∧ PyData.strOk x = true := by
  unfold reprB at h
  split at h
  · rename_i x e
    exact ⟨x, by show (reprD d).map D.str = _; rw [e]; rfl, h⟩
  · cases h
theorem repr_small (n : Nat) (hn : n ≤ 5) (p : Nat → Bool) : reprB (nset ((List.range n).filter p)) = true := by
  have e : n = 0 ∨ n = 1 ∨ n = 2 ∨ n = 3 ∨ n = 4 ∨ n = 5 := by omega
  rcases e with rfl | rfl | rfl | rfl | rfl | rfl
  · show reprB (nset []) = true; kernel_rfl
  · show reprB (nset ([0].filter p)) = true
    cases h0 : p 0 <;> simp only [List.filter_cons, List.filter_nil, h0] <;> kernel_rfl
  · show reprB (nset ([0, 1].filter p)) = true
    cases h0 : p 0 <;> cases h1 : p 1 <;> simp only [List.filter_cons, List.filter_nil, h0, h1] <;> kernel_rfl
  · show reprB (nset ([0, 1, 2].filter p)) = true
    cases h0 : p 0 <;> cases h1 : p 1 <;> cases h2 : p 2 <;> simp only [List.filter_cons, List.filter_nil, h0, h1, h2] <;> kernel_rfl
  · show reprB (nset ([0, 1, 2, 3].filter p)) = true
    cases h0 : p 0 <;> cases h1 : p 1 <;> cases h2 : p 2 <;> cases h3 : p 3 <;> simp only [List.filter_cons, List.filter_nil, h0, h1, h2, h3] <;> kernel_rfl
  · show reprB (nset ([0, 1, 2, 3, 4].filter p)) = true
    cases h0 : p 0 <;> cases h1 : p 1 <;> cases h2 : p 2 <;> cases h3 : p 3 <;> cases h4 : p 4 <;> simp only [List.filter_cons, List.filter_nil, h0, h1, h2, h3, h4] <;> kernel_rfl
end Lw
set_option maxHeartbeats 2000000
/-! LwP: pairs of numbers as data; data equal to themselves; repr of numbers and tuples. -/
namespace Lw
open PySem
/-! ### equal to itself -/
mutual
theorem eqv_self : ∀ d : D, d.plain = true → PyData.eqv d.py d.py = true
  | .non, _ => by simp [D.py, PyData.eqv]
  | .bl b, _ => by simp [D.py, PyData.eqv]
  | .int i, _ => by simp [D.py, PyData.eqv]
  | .str x, _ => by simp [D.py, PyData.eqv]
  | .tup ds, h => by simp only [D.py, PyData.eqv]; exact eqv_selfs ds (by simpa [D.plain] using h)
  | .lst ds, h => by simp only [D.py, PyData.eqv]; exact eqv_selfs ds (by simpa [D.plain] using h)
  | .ref _, h => by simp [D.plain] at h
  | .dic _, h => by simp [D.plain] at h
theorem eqv_selfs : ∀ ds : List D, D.plains ds = true → PyData.eqvAll (D.pys ds) (D.pys ds) = true
  | [], _ => by simp [D.pys, PyData.eqvAll]
  | d :: ds, h => by
    have h2 : d.plain = true ∧ D.plains ds = true := by simpa [D.plains] using h
    simp [D.pys, PyData.eqvAll, eqv_self d h2.1, eqv_selfs ds h2.2]
end
/-- plain data that may be compared -/
structure Pd (d : D) : Prop where
  p : d.plain = true
  s : SeqAt.shaped d.py = true
theorem cp_self_eq {d : D} (h : Pd d) : cmpD .Eq d d = some true := by
  rw [cp_eqD]
  unfold D.eqv
  rw [h.p, h.s]
  simp [eqv_self d h.p]
theorem cp_self_ne {d : D} (h : Pd d) : cmpD .NotEq d d = some false := by
  rw [cp_neD]
  unfold D.eqv
  rw [h.p, h.s]
  simp [eqv_self d h.p]
/-! ### pairs -/
def pr (p : Nat × Nat) : D := .tup [.int (p.1 : Int), .int (p.2 : Int)]
abbrev prs (l : List (Nat × Nat)) : D := .tup (l.map pr)
def ltP (p r : Nat × Nat) : Prop := p.1 < r.1 ∨ (p.1 = r.1 ∧ p.2 < r.2)
instance (p r : Nat × Nat) : Decidable (ltP p r) := by unfold ltP; exact inferInstance
theorem ltP_irr (r : Nat × Nat) : ¬ ltP r r := by unfold ltP; omega
theorem ltP_tr {a b c : Nat × Nat} (h1 : ltP a b) (h2 : ltP b c) : ltP a c := by unfold ltP at *; omega
theorem ltP_tot {a b : Nat × Nat} (h : ¬ ltP a b) : ltP b a ∨ a = b := by
  by_cases e : ltP b a
  · exact .inl e
  · refine .inr ?_
    unfold ltP at *
    obtain ⟨a1, a2⟩ := a
    obtain ⟨b1, b2⟩ := b
    simp only at *
    have : a1 = b1 ∧ a2 = b2 := by omega
    simp [this]
theorem eqv_P (r p : Nat × Nat) : PyData.eqv (pr r).py (pr p).py = decide (r = p) := by
  obtain ⟨r1, r2⟩ := r
  obtain ⟨p1, p2⟩ := p
  simp [pr, D.py, D.pys, PyData.eqv, PyData.eqvAll]
  rw [Bool.eq_iff_iff]
  simp
  omega
theorem shaped_P (r : Nat × Nat) : SeqAt.shaped (pr r).py = true := by
  simp [pr, D.py, D.pys, SeqAt.shaped, PyData.canLay0, PyData.canLayAll0, PyData.depth, PyData.depthAll]
theorem plains_P : ∀ rs : List (Nat × Nat), D.plains (rs.map pr) = true ∧ PyData.canLayAll0 (D.pys (rs.map pr)) = true ∧ PyData.depthAll (D.pys (rs.map pr)) ≤ 1
  | [] => by simp [D.plains, D.pys, PyData.canLayAll0, PyData.depthAll]
  | r :: rs => by
    obtain ⟨h1, h2, h3⟩ := plains_P rs
    refine ⟨?_, ?_, ?_⟩
    · simp [D.plains, h1, pr, D.plain]
    · simp [D.pys, PyData.canLayAll0, h2]
      simp [pr, D.py, D.pys, PyData.canLay0, PyData.canLayAll0]
    · simp [D.pys, PyData.depthAll]
      exact Nat.max_le.mpr ⟨by simp [pr, D.py, D.pys, PyData.depth, PyData.depthAll], h3⟩
theorem pd_prs (l : List (Nat × Nat)) : Pd (prs l) := by
  obtain ⟨h1, h2, h3⟩ := plains_P l
  refine ⟨h1, ?_⟩
  simp only [prs, D.py, SeqAt.shaped, PyData.canLay0, PyData.depth, h2, Bool.true_and, decide_eq_true_eq]
  omega
theorem any_P (r : Nat × Nat) : ∀ rs : List (Nat × Nat), ((D.pys (rs.map pr)).any fun z => PyData.eqv z (pr r).py) = decide (r ∈ rs)
  | [] => by simp [D.pys]
  | p :: rs => by
    simp only [List.map_cons, D.pys, List.any_cons, any_P r rs, eqv_P, List.mem_cons, Bool.decide_or]
    congr 1
    exact decide_eq_decide.mpr ⟨fun z => z.symm, fun z => z.symm⟩
theorem notin_P (r : Nat × Nat) (rs : List (Nat × Nat)) : cmpD .NotIn (pr r) (.lst (rs.map pr)) = some (!decide (r ∈ rs)) := by
  obtain ⟨a1, a2, _⟩ := plains_P rs
  show (inD (pr r) (.lst (rs.map pr))).map (!·) = _
  have p1 : (pr r).plain = true := by simp [pr, D.plain, D.plains]
  simp only [inD, p1, a1, a2, shaped_P, Bool.and_self, if_true, any_P, Option.map_some]
def leP (a b : Nat × Nat) : Bool := !decide (ltP b a)
def srtP (rs : List (Nat × Nat)) : List (Nat × Nat) := rs.mergeSort leP
theorem dataLt_P (r p : Nat × Nat) : PySem.W.dataLt (pr r).py (pr p).py = decide (ltP r p) := by
  obtain ⟨r1, r2⟩ := r
  obtain ⟨p1, p2⟩ := p
  have al : ∀ i j : Int, PySem.W.alike (.int i) (.int j) = true := fun i j => by simp [PySem.W.alike]
  simp only [pr, D.py, D.pys]
  rw [PySem.W.dataLt_tuple, PySem.W.dataLt_cons (al _ _), PySem.W.dataLt_cons (al _ _), PySem.W.dataLt_int, PySem.W.dataLt_int]
  have e : PyProof.Rows.lexLt PyProof.Rows.itemOrd (PySem.W.keyToksAll []) (PySem.W.keyToksAll []) = false := PyProof.Rows.lex_irrefl _
  rw [e]
  simp only [PyData.eqv, beq_iff_eq, ltP]
  by_cases h1 : (r1 : Int) = p1 <;> by_cases h2 : (r2 : Int) = p2 <;> simp [h1, h2] <;> first | omega | exact decide_eq_decide.mpr (by omega) | exact decide_eq_false (by omega)
theorem alike_P (r p : Nat × Nat) : PySem.W.alike (pr r).py (pr p).py = true := by simp [pr, D.py, D.pys, PySem.W.alike, PySem.W.alikeAll]
theorem sortD_P (rs : List (Nat × Nat)) : sortD (rs.map pr) = some ((srtP rs).map pr) := by
  obtain ⟨a1, _⟩ := plains_P rs
  have c2 : ((rs.map pr).all fun d => SeqAt.shaped d.py) = true := by
    rw [List.all_eq_true]
    intro d hd
    obtain ⟨i, _, rfl⟩ := List.mem_map.mp hd
    exact shaped_P i
  have c3 : ((rs.map pr).all fun a => (rs.map pr).all fun b => PySem.W.alike a.py b.py) = true := by
    rw [List.all_eq_true]
    intro d hd
    obtain ⟨i, _, rfl⟩ := List.mem_map.mp hd
    rw [List.all_eq_true]
    intro e he
    obtain ⟨j, _, rfl⟩ := List.mem_map.mp he
    exact alike_P i j
  have c4 : sortableB (rs.map pr) = true := by
    unfold sortableB
    rw [Bool.or_eq_true]
    left
    rw [List.all_eq_true]
    intro d hd
    obtain ⟨i, _, rfl⟩ := List.mem_map.mp hd
    rfl
  unfold sortD
  rw [a1, c2, c3, c4]
  simp only [Bool.and_self, if_true]
  congr 1
  refine (List.map_mergeSort (fun a _ b _ => ?_)).symm
  have z := congrFun (congrFun (PySem.W.dataLe_eq false D.py) (pr a)) (pr b)
  rw [z]
  show leP a b = !(PySem.W.dataLt (pr b).py (pr a).py)
  rw [dataLt_P]
  rfl
theorem ca_sorted_P (rs : List (Nat × Nat)) : callD "sorted" [.lst (rs.map pr)] = some (.lst ((srtP rs).map pr)) := by
  show (sortD (rs.map pr)).map D.lst = _
  rw [sortD_P]; rfl
theorem mem_srtP {r : Nat × Nat} {rs : List (Nat × Nat)} : r ∈ srtP rs ↔ r ∈ rs := List.mem_mergeSort
theorem inc_srtP {rs : List (Nat × Nat)} (h : rs.Nodup) : (srtP rs).Pairwise ltP := by
  refine strict_of (le := fun a b => leP a b = true) (fun a b h1 h2 => ?_) (List.pairwise_mergeSort (fun a b c h1 h2 => ?_) (fun a b => ?_) _) ((List.mergeSort_perm _ _).nodup_iff.mpr h)
  · unfold leP at h1
    rw [Bool.not_eq_true', decide_eq_false_iff_not] at h1
    rcases ltP_tot h1 with z | z
    · exact z
    · exact absurd z.symm h2
  · unfold leP at *
    rw [Bool.not_eq_true', decide_eq_false_iff_not] at *
    intro z
    rcases ltP_tot h1 with y | y
    · exact h2 (ltP_tr z y)
    · subst y; exact h2 z
  · unfold leP
    rw [Bool.or_eq_true, Bool.not_eq_true', Bool.not_eq_true', decide_eq_false_iff_not, decide_eq_false_iff_not]
    by_cases z : ltP b a
    · exact .inr fun y => ltP_irr a (ltP_tr y z)
    · exact .inl z
theorem incP_ext {l m : List (Nat × Nat)} (h1 : l.Pairwise ltP) (h2 : m.Pairwise ltP) (h : ∀ x, x ∈ l ↔ x ∈ m) : l = m := inc_ext (lt := ltP) ltP_irr (fun a b c => ltP_tr) h1 h2 h
/-! ### repr of numbers below 100, bools, tuples of them -/
mutual
def numD : D → Bool
  | .int i => decide (0 ≤ i ∧ i < 100)
  | .bl _ => true
  | .tup ds => numDs ds
  | _ => false
def numDs : List D → Bool
  | [] => true
  | d :: ds => numD d && numDs ds
end
mutual
def wtD : D → Nat
  | .tup ds => 1 + wtDs ds
  | _ => 1
def wtDs : List D → Nat
  | [] => 0
  | d :: ds => wtD d + wtDs ds
end
theorem ok_app {a b : Str} (ha : PyData.strOk a = true) (hb : PyData.strOk b = true) : PyData.strOk (a ++ b) = true := by
  unfold PyData.strOk at *
  rw [Str.cps_append, Array.all_append, ha, hb]; rfl
theorem int_shown : ∀ n : Nat, n < 100 → PyData.strOk ((toString (n : Int) : String) : Str) = true ∧ ((toString (n : Int) : String) : Str).length ≤ 2 ∧ (n : Int).natAbs.log2 < 1920 := by
  have h : ((List.range 100).all fun n => PyData.strOk ((toString (n : Int) : String) : Str) && (decide (((toString (n : Int) : String) : Str).length ≤ 2) && decide ((n : Int).natAbs.log2 < 1920))) = true := by decide +kernel
  intro n hn
  have z := List.all_eq_true.mp h n (List.mem_range.mpr hn)
  rw [Bool.and_eq_true, Bool.and_eq_true, decide_eq_true_eq, decide_eq_true_eq] at z
  exact z
theorem join_ok : ∀ ts : List Str, (∀ t ∈ ts, PyData.strOk t = true) → PyData.strOk (Str.join ", " ts) = true ∧ (Str.join ", " ts).length ≤ (ts.map fun t => t.length + 2).sum
  | [], _ => ⟨by kernel_rfl, by show (0 : Nat) ≤ _; omega⟩
  | [x], h => ⟨h x (List.mem_cons_self ..), by show x.length ≤ _; simp⟩
  | x :: y :: r, h => by
    obtain ⟨h1, h2⟩ := join_ok (y :: r) fun t ht => h t (List.mem_cons_of_mem _ ht)
    have e : Str.join ", " (x :: y :: r) = x ++ ((", " : String) : Str) ++ Str.join ", " (y :: r) := rfl
    rw [e]
    refine ⟨ok_app (ok_app (h x (List.mem_cons_self ..)) (by kernel_rfl)) h1, ?_⟩
    rw [Str.length_append, Str.length_append]
    have e2 : ((", " : String) : Str).length = 2 := rfl
    rw [e2, List.map_cons, List.sum_cons]
    omega
mutual
theorem shown_num : ∀ d : D, numD d = true → PyData.strOk d.py.shown = true ∧ d.py.shown.length + 2 ≤ 8 * wtD d ∧ d.py.showable = true ∧ d.plain = true ∧ d.py.canLay0 = true
  | .int i, h => by
    have h2 : 0 ≤ i ∧ i < 100 := by simpa [numD] using h
    obtain ⟨n, rfl⟩ : ∃ n : Nat, i = n := ⟨i.toNat, by omega⟩
    obtain ⟨z1, z2, z9⟩ := int_shown n (by omega)
    refine ⟨z1, ?_, ?_, rfl, rfl⟩
    · have z3 : (D.int (n : Int)).py.shown.length ≤ 2 := z2
      simp only [wtD]; omega
    · simp only [D.py, PyData.showable]
      exact decide_eq_true z9
  | .bl b, _ => by cases b <;> exact ⟨by kernel_rfl, by decide +kernel, rfl, rfl, rfl⟩
  | .tup ds, h => by
    have h1 : numDs ds = true := by simpa [numD] using h
    obtain ⟨z1, z2, z3, z4, z5⟩ := shown_nums ds h1
    obtain ⟨j1, j2⟩ := join_ok (PyData.shownAll (D.pys ds)) z1
    have e : (D.tup ds).py.shown = ("(" : Str) ++ Str.join ", " (PyData.shownAll (D.pys ds)) ++ (if (PyData.shownAll (D.pys ds)).length == 1 then ",)" else ")" : String) := by
      simp only [D.py, PyData.shown]; rfl
    refine ⟨?_, ?_, by simpa [D.py, PyData.showable] using z3, by simpa [D.plain] using z4, by simpa [D.py, PyData.canLay0] using z5⟩
    · rw [e]
      refine ok_app (ok_app (by kernel_rfl) j1) ?_
      split <;> kernel_rfl
    · rw [e, Str.length_append, Str.length_append]
      have e1 : ("(" : Str).length = 1 := by kernel_rfl
      have e2 : ((if (PyData.shownAll (D.pys ds)).length == 1 then ",)" else ")" : String) : Str).length ≤ 2 := by
        split
        · have : (((",)" : String) : Str)).length = 2 := by kernel_rfl
          omega
        · have : (((")" : String) : Str)).length = 1 := by kernel_rfl
          omega
      simp only [wtD]
      omega
  | .non, h => by simp [numD] at h
  | .str _, h => by simp [numD] at h
  | .lst _, h => by simp [numD] at h
  | .ref _, h => by simp [numD] at h
  | .dic _, h => by simp [numD] at h
theorem shown_nums : ∀ ds : List D, numDs ds = true → (∀ t ∈ PyData.shownAll (D.pys ds), PyData.strOk t = true) ∧ ((PyData.shownAll (D.pys ds)).map fun t => t.length + 2).sum ≤ 8 * wtDs ds ∧ PyData.showableAll (D.pys ds) = true ∧ D.plains ds = true ∧ PyData.canLayAll0 (D.pys ds) = true
  | [], _ => by simp [D.pys, PyData.shownAll, PyData.showableAll, D.plains, PyData.canLayAll0]
  | d :: ds, h => by
    have h2 : numD d = true ∧ numDs ds = true := by simpa [numDs] using h
    obtain ⟨a1, a2, a3, a4, a5⟩ := shown_num d h2.1
    obtain ⟨b1, b2, b3, b4, b5⟩ := shown_nums ds h2.2
    refine ⟨fun t ht => ?_, ?_, by simp [D.pys, PyData.showableAll, a3, b3], by simp [D.plains, a4, b4], by simp [D.pys, PyData.canLayAll0, a5, b5]⟩
    · simp only [D.pys, PyData.shownAll] at ht
      rcases List.mem_cons.mp ht with z | z
      · subst z; exact a1
      · exact b1 t z
    · simp only [D.pys, PyData.shownAll, List.map_cons, List.sum_cons, wtDs]
      omega
end
theorem repr_num {ds : List D} (h : numD (.tup ds) = true) (hd : (D.tup ds).py.depth ≤ 64) (hw : wtD (.tup ds) ≤ 1000000) : ∃ x, callD "repr" [.tup ds] = some (.str x) ∧ PyData.strOk x = true := by
  obtain ⟨h1, h2, h3, h4, h5⟩ := shown_num _ h
  refine ⟨(D.tup ds).py.shown, ?_, h1⟩
  have e : LINE = 16777216 := rfl
  show (reprS (.tup ds)).map D.str = _
  unfold reprS
  have s : SeqAt.shaped (D.tup ds).py = true := by
    unfold SeqAt.shaped
    rw [h5, decide_eq_true hd]; rfl
  rw [h4, s, h3, decide_eq_true (show (D.tup ds).py.shown.length ≤ LINE by rw [e]; omega)]
  rfl
end Lw
set_option maxHeartbeats 2000000
/-! LwW: dicts of the store, in plain Lean: pairs of numbers as keys, with their places. -/
namespace Lw
open PySem
theorem vw_dct (S : Sto) (kvs : List (D × D)) : view (S ++ [.dic kvs]) (.ref S.length) = .dct kvs := by
  simp [view]
theorem sub_dct (S : Sto) (kvs : List (D × D)) (k v : D) (kk : NestedKey) (ρ : Ev) (hk : keyD k = some kk) (hl : kvs.length < LINE) : subD (.ref S.length) k v ρ (S ++ [.dic kvs]) = .nx ρ (S ++ [.dic (putKV kvs kk k v)]) := by
  have e : storeX S.length k v (S ++ [.dic kvs]) = some (S ++ [.dic (putKV kvs kk k v)]) := by
    simp [storeX, hk, hl]
  show (match storeX S.length k v (S ++ [.dic kvs]) with
    | some S4 => O.nx ρ S4
    | none => .bad) = _
  rw [e]
abbrev keyP (p : Nat × Nat) : NestedKey := .tup [.num (p.1 : Int), .num (p.2 : Int)]
theorem nk_pr (p : Nat × Nat) : nk (pr p) = some (keyP p) := by simp [pr, nk, nks]
theorem keyD_pr (p : Nat × Nat) : keyD (pr p) = some (keyP p) := by
  show (match nk (pr p) with
    | some k => if k.depth ≤ 8 then some k else none
    | none => none) = _
  rw [nk_pr]
  rfl
theorem keyP_inj {p q : Nat × Nat} : keyP p = keyP q ↔ p = q := by
  constructor
  · intro h
    have h1 := NestedKey.tup.inj h
    have h2 := (List.cons.inj h1).1
    have h3 := (List.cons.inj (List.cons.inj h1).2).1
    have h2 := NestedKey.num.inj h2
    have h3 := NestedKey.num.inj h3
    obtain ⟨a, b⟩ := p
    obtain ⟨c, d⟩ := q
    simp only at h2 h3
    have e1 : a = c := by omega
    have e2 : b = d := by omega
    rw [e1, e2]
  · intro h; rw [h]
/-- the places of pairs, as a dict -/
def kvF : Nat → List (Nat × Nat) → List (D × D)
  | _, [] => []
  | k, p :: P => (pr p, .int (k : Int)) :: kvF (k + 1) P
theorem kvF_len : ∀ (P : List (Nat × Nat)) (k : Nat), (kvF k P).length = P.length
  | [], _ => rfl
  | p :: P, k => by simp [kvF, kvF_len P]
theorem kvF_snoc : ∀ (P : List (Nat × Nat)) (k : Nat) (p : Nat × Nat), kvF k (P ++ [p]) = kvF k P ++ [(pr p, .int ((k + P.length : Nat) : Int))]
  | [], k, p => by simp [kvF]
  | q :: P, k, p => by
    have ih := kvF_snoc P (k + 1) p
    have e : k + 1 + P.length = k + (q :: P).length := by simp; omega
    rw [e] at ih
    simp only [List.cons_append, kvF, ih]
theorem get_kvF : ∀ (P : List (Nat × Nat)) (k : Nat) (p : Nat × Nat), getKV (kvF k P) (keyP p) = if p ∈ P then some (.int ((k + P.idxOf p : Nat) : Int)) else none
  | [], k, p => by simp [kvF, getKV]
  | q :: P, k, p => by
    have ih := get_kvF P (k + 1) p
    by_cases h : q = p
    · subst h
      simp [kvF, getKV, nk_pr]
    · have h2 : ¬ nk (pr q) = some (keyP p) := by
        rw [nk_pr]
        exact fun z => h (keyP_inj.mp (Option.some.inj z))
      have e : getKV (kvF k (q :: P)) (keyP p) = getKV (kvF (k + 1) P) (keyP p) := by
        simp only [kvF, getKV, List.find?_cons, decide_eq_false h2]
      rw [e, ih]
      have hb : (q == p) = false := by simpa using h
      have hm : p ∈ q :: P ↔ p ∈ P := by
        rw [List.mem_cons]
        exact ⟨fun z => z.resolve_left fun w => h w.symm, .inr⟩
      have hi : List.idxOf p (q :: P) = List.idxOf p P + 1 := by
        rw [List.idxOf_cons, hb]
        rfl
      by_cases m : p ∈ P
      · rw [if_pos m, if_pos (hm.mpr m), hi]
        congr 3
        omega
      · rw [if_neg m, if_neg (fun z => m (hm.mp z))]
theorem any_getKV (kvs : List (D × D)) (k : NestedKey) : (kvs.any fun p => decide (nk p.1 = some k)) = (getKV kvs k).isSome := (get_isSome kvs k).symm
theorem put_kvF (P : List (Nat × Nat)) (p : Nat × Nat) (h : p ∉ P) : putKV (kvF 0 P) (keyP p) (pr p) (.int (P.length : Int)) = kvF 0 (P ++ [p]) := by
  unfold putKV
  rw [any_getKV, get_kvF, if_neg h, kvF_snoc, Nat.zero_add]
  rfl
theorem in_kvF (P : List (Nat × Nat)) (p : Nat × Nat) : cmpD .NotIn (pr p) (.dct (kvF 0 P)) = some (!decide (p ∈ P)) := by
  have e : cmpD .NotIn (pr p) (.dct (kvF 0 P)) = ((keyD (pr p)).map fun k => (getKV (kvF 0 P) k).isSome).map (!·) := rfl
  rw [e, keyD_pr, Option.map_some, Option.map_some, get_kvF]
  by_cases h : p ∈ P
  · rw [if_pos h, decide_eq_true h]; rfl
  · rw [if_neg h, decide_eq_false h]; rfl
theorem item_kvF (P : List (Nat × Nat)) (p : Nat × Nat) (h : p ∈ P) : itemD (.dct (kvF 0 P)) (pr p) = some (.int ((P.idxOf p : Nat) : Int)) := by
  have e : itemD (.dct (kvF 0 P)) (pr p) = (keyD (pr p)).bind fun k => getKV (kvF 0 P) k := rfl
  rw [e, keyD_pr, Option.bind_some, get_kvF, if_pos h, Nat.zero_add]
/-! ### a call's own dict is forgotten -/
mutual
theorem under_plain (n : Nat) : ∀ d : D, d.plain = true → d.under n = true
  | .non, _ => rfl
  | .bl _, _ => rfl
  | .int _, _ => rfl
  | .str _, _ => rfl
  | .tup ds, h => by simpa [D.under] using unders_plain n ds (by simpa [D.plain] using h)
  | .lst ds, h => by simpa [D.under] using unders_plain n ds (by simpa [D.plain] using h)
  | .ref _, h => by simp [D.plain] at h
  | .dic _, h => by simp [D.plain] at h
  | .dct _, h => by simp [D.plain] at h
  | .fn _, h => by simp [D.plain] at h
theorem unders_plain (n : Nat) : ∀ ds : List D, D.plains ds = true → D.unders n ds = true
  | [], _ => rfl
  | d :: ds, h => by
    have h2 : d.plain = true ∧ D.plains ds = true := by simpa [D.plains] using h
    simp [D.unders, under_plain n d h2.1, unders_plain n ds h2.2]
end
theorem gc_ok {S R : Sto} {d : D} (hd : d.plain = true) (hS : S.all plainM = true) : gcR S.length (.ok d (S ++ R)) = .ok d S := by
  have e : gcR S.length (.ok d (S ++ R)) = if d.under S.length && ((S ++ R).take S.length).all (MO.under S.length) then .ok d ((S ++ R).take S.length) else .ok d (S ++ R) := rfl
  rw [e, List.take_left]
  have a : S.all (MO.under S.length) = true := List.all_eq_true.mpr fun o ho => by
    have := List.all_eq_true.mp hS o ho
    cases o with
    | lst ds => exact unders_plain _ ds this
    | dic kvs =>
      show underP _ kvs = true
      have h : (kvs.all fun p => p.1.plain && p.2.plain) = true := this
      clear this ho
      induction kvs with
      | nil => rfl
      | cons p kvs ih =>
        rw [List.all_cons, Bool.and_eq_true, Bool.and_eq_true] at h
        simp [underP, under_plain _ _ h.1.1, under_plain _ _ h.1.2, ih h.2]
    | ins c fs =>
      show underF _ fs = true
      have h : (fs.all fun p => p.2.plain) = true := this
      clear this ho
      induction fs with
      | nil => rfl
      | cons p fs ih =>
        rw [List.all_cons, Bool.and_eq_true] at h
        simp [underF, under_plain _ _ h.1, ih h.2]
  rw [under_plain _ d hd, a]
  rfl
theorem gc_err {S R : Sto} {c : Str} (hS : S.all plainM = true) : gcR S.length (.err c (S ++ R)) = .err c S := by
  have h := gc_ok (R := R) (d := .non) rfl hS
  have e : gcR S.length (.err c (S ++ R)) = if ((S ++ R).take S.length).all (MO.under S.length) then .err c ((S ++ R).take S.length) else .err c (S ++ R) := rfl
  have e2 : gcR S.length (.ok .non (S ++ R)) = if ((S ++ R).take S.length).all (MO.under S.length) then .ok .non ((S ++ R).take S.length) else .ok .non (S ++ R) := rfl
  rw [e2] at h
  rw [e, List.take_left]
  by_cases hc : ((S ++ R).take S.length).all (MO.under S.length) = true
  · rw [if_pos (by rw [List.take_left] at hc; exact hc)]
  · rw [if_neg hc] at h
    have := (Lw.R.ok.inj h).2
    have l := congrArg List.length this
    rw [List.length_append] at l
    have rn : R = [] := List.eq_nil_of_length_eq_zero (by omega)
    subst rn
    rw [List.append_nil]
    split <;> rfl
end Lw
set_option maxHeartbeats 2000000
/-! LwU: templates and transformations as data. -/
namespace Lw
open PySem
theorem forL_nx {f : D → Ev → Sto → O} {d : D} {ds : List D} {ρ ρ1 : Ev} {S S1 : Sto} (h : f d ρ S = .nx ρ1 S1) : forL f (d :: ds) ρ S = forL f ds ρ1 S1 := by
  simp only [forL, h]
inductive Pt where
  | nd (a : Int) (ts : List Pt) | inn (p : Nat) | nxt (q : Nat)
  deriving Inhabited
mutual
def encPt : Pt → D
  | .nd a ts => .tup [.str "node", .int a, .tup (encPts ts)]
  | .inn p => .tup [.str "in", .int (p : Int)]
  | .nxt q => .tup [.str "next", .int (q : Int)]
def encPts : List Pt → List D
  | [] => []
  | t :: ts => encPt t :: encPts ts
end
mutual
def pN : Pt → Nat
  | .nd _ ts => 1 + psN ts
  | .inn _ => 1
  | .nxt _ => 1
def psN : List Pt → Nat
  | [] => 0
  | t :: ts => pN t + psN ts
end
mutual
def dP : Pt → Nat
  | .nd _ ts => 1 + dPs ts
  | .inn _ => 0
  | .nxt _ => 0
def dPs : List Pt → Nat
  | [] => 0
  | t :: ts => max (dP t) (dPs ts)
end
mutual
/-- a part, a template of so many states; e: of an end -/
def okP (many : Nat) (e : Bool) : Pt → Prop
  | .nd a ts => (0 ≤ a ∧ a ≤ 4) ∧ okPs many e ts
  | .inn p => e = false ∧ p < many
  | .nxt q => e = false ∧ q < many
def okPs (many : Nat) (e : Bool) : List Pt → Prop
  | [] => True
  | t :: ts => okP many e t ∧ okPs many e ts
end
theorem encPts_map : ∀ ts : List Pt, encPts ts = ts.map encPt
  | [] => rfl
  | t :: ts => by rw [encPts, encPts_map ts]; rfl
theorem encPts_len (ts : List Pt) : (encPts ts).length = ts.length := by rw [encPts_map, List.length_map]
theorem psN_len : ∀ ts : List Pt, ts.length ≤ psN ts
  | [] => Nat.le_refl _
  | t :: ts => by
    have ih := psN_len ts
    have h : 1 ≤ pN t := by cases t <;> simp [pN]
    rw [List.length_cons]
    show _ ≤ pN t + psN ts
    omega
/-! ### texts of parts -/
theorem st_nn : cmpD .Eq (.str "node") (.str "node") = some true := by kernel_rfl
theorem st_in : cmpD .Eq (.str "in") (.str "node") = some false := by kernel_rfl
theorem st_xn : cmpD .Eq (.str "next") (.str "node") = some false := by kernel_rfl
theorem st_ii : cmpD .Eq (.str "in") (.str "in") = some true := by kernel_rfl
theorem st_xi : cmpD .Eq (.str "next") (.str "in") = some false := by kernel_rfl
theorem st_ix : cmpD .Eq (.str "in") (.str "next") = some false := by kernel_rfl
theorem st_xx : cmpD .Eq (.str "next") (.str "next") = some true := by kernel_rfl
theorem ni_in : cmpD .NotIn (.str "in") (.tup [.str "in", .str "next"]) = some false := by kernel_rfl
theorem ni_nx : cmpD .NotIn (.str "next") (.tup [.str "in", .str "next"]) = some false := by kernel_rfl
/-! ### choices, transformations -/
abbrev Ch := Int × List Pt
def encCh (c : Ch) : D := .tup [.int c.1, (.tup (encPts c.2))]
abbrev TSt := List Pt × List (List Ch)
def encChs (l : List Ch) : D := .tup (l.map encCh)
def encTS (x : TSt) : D := .tup [(.tup (encPts x.1)), .tup (x.2.map encChs)]
structure Tf where
  looks : List Sta
  sts : List TSt
def encTf (m : Tf) : D := .tup [sch m.looks, .tup (m.sts.map encTS)]
def chN (l : List Ch) : Nat := (l.map fun c => psN c.2).sum
def tsN (x : TSt) : Nat := psN x.1 + (x.2.map chN).sum
def tfN (m : Tf) : Nat := (m.sts.map tsN).sum
/-- a template of choices -/
structure TplOk (many : Nat) (e : Bool) (ts : List Pt) : Prop where
  ok : okPs many e ts
  dp : dPs ts < 10
structure ChsOk (many looks : Nat) (l : List Ch) : Prop where
  ne : ∃ r ts, l = r ++ [(-1, ts)]
  fst : ∀ c ∈ l.dropLast, 0 ≤ c.1 ∧ c.1 < (looks : Int)
  tp : ∀ c ∈ l, TplOk many false c.2
structure TSOk (many looks : Nat) (x : TSt) : Prop where
  en : TplOk many true x.1
  five : x.2.length = 5
  chs : ∀ l ∈ x.2, ChsOk many looks l
structure TfOk (m : Tf) : Prop where
  lk : SchOk m.looks
  lk8 : m.looks.length ≤ 8
  lo : 1 ≤ m.sts.length
  hi : m.sts.length ≤ 12
  sts : ∀ x ∈ m.sts, TSOk m.sts.length m.looks.length x
  many : tfN m ≤ 300
end Lw
set_option maxHeartbeats 2000000
/-! LwAb: objects and lists of the store, read and written: plain Lean. -/
namespace Lw
open PySem
section
variable {g : G} {S S0 T : Sto} {i j : Nat} {c f m q : Str} {fs : List (Str × D)} {ds : List D} {d : D} {ρ : Ev}
theorem get_app (S0 T : Sto) (j : Nat) : (S0 ++ T)[S0.length + j]? = T[j]? := by
  rw [List.getElem?_append_right (Nat.le_add_right _ _), Nat.add_sub_cancel_left]
theorem get_app0 (S0 T : Sto) : (S0 ++ T)[S0.length]? = T[0]? := get_app S0 T 0
theorem set_app (S0 T : Sto) (j : Nat) (x : MO) : (S0 ++ T).set (S0.length + j) x = S0 ++ T.set j x := by
  rw [List.set_append, if_neg (by omega), Nat.add_sub_cancel_left]
theorem set_app0 (S0 T : Sto) (x : MO) : (S0 ++ T).set S0.length x = S0 ++ T.set 0 x := set_app S0 T 0 x
theorem vw_at (h : S[i]? = some (.lst ds)) : view S (.ref i) = .lst ds := by simp only [view, h]
theorem vw_ins (h : S[i]? = some (.ins c fs)) : view S (.ref i) = .ref i := by simp only [view, h]
theorem vw_dic_at {kvs : List (D × D)} (h : S[i]? = some (.dic kvs)) : view S (.ref i) = .dct kvs := by simp only [view, h]
theorem fldD_at (h : S[i]? = some (.ins c fs)) (hf : g.fld c f = true) (hl : fs.lookup f = some d) : fldD g (.ref i) f S = some d := by
  simp only [fldD, h, hf, if_true, hl]
theorem methD_at (h : S[i]? = some (.ins c fs)) (hl : fs.lookup m = none) (hq : g.mt c m = some q) : methD g (.ref i) m S = some q := by
  simp only [methD, h, hl, hq, Option.isNone_none, if_true]
theorem storeF_at (h : S[i]? = some (.ins c fs)) (hf : g.fld c f = true) (hl : fs.length < 1000) : storeF g (.ref i) f d S = some (S.set i (.ins c (putS f d fs))) := by
  simp only [storeF, h, hf, decide_eq_true hl, Bool.and_self, if_true]
theorem lstAt_at (h : S[i]? = some (.lst ds)) : lstAt (.ref i) S = some i := by simp only [lstAt, h]
theorem appR_at (h : S[i]? = some (.lst ds)) (hl : ds.length < LINE) : appR i d ρ S = .nx ρ (S.set i (.lst (ds ++ [d]))) := by
  simp only [appR, h, if_pos hl]
theorem appX_at (h : S[i]? = some (.lst ds)) (f : Nat → O) : appX (.ref i) S f = f i := by simp only [appX, lstAt_at h]
@[simp] theorem methK_s (f : Str → R D) : methK (some q) f = f q := id rfl
@[simp] theorem stoK_s (f : Sto → O) : stoK (some S) f = f S := id rfl
@[simp] theorem extS_o (f : List D → O) : extS (.own ds) f = f ds := id rfl
@[simp] theorem extK_s (f : List D → O) : extK (some ds) f = f ds := id rfl
@[simp] theorem initR_n : initR i .non S = .ok (.ref i) S := id rfl
@[simp] theorem more_l : moreD (.lst ds) = some ds := id rfl
@[simp] theorem more_t : moreD (.tup ds) = some ds := id rfl
end
end Lw
set_option maxHeartbeats 2000000
/-! LwAc: dicts of the store with pairs of numbers as keys. -/
namespace Lw
open PySem
def kvG (v : Nat × Nat → D) (F : List (Nat × Nat)) : List (D × D) := F.map fun p => (pr p, v p)
theorem kvG_len (v : Nat × Nat → D) (F : List (Nat × Nat)) : (kvG v F).length = F.length := List.length_map ..
theorem get_kvG (v : Nat × Nat → D) : ∀ (F : List (Nat × Nat)) (q : Nat × Nat), getKV (kvG v F) (keyP q) = if q ∈ F then some (v q) else none
  | [], q => by simp [kvG, getKV]
  | p :: F, q => by
    have ih := get_kvG v F q
    by_cases h : p = q
    · subst h
      simp [kvG, getKV, nk_pr]
    · have h2 : ¬ nk (pr p) = some (keyP q) := by
        rw [nk_pr]
        exact fun z => h (keyP_inj.mp (Option.some.inj z))
      have e : getKV (kvG v (p :: F)) (keyP q) = getKV (kvG v F) (keyP q) := by
        simp only [kvG, List.map_cons, getKV, List.find?_cons, decide_eq_false h2]
      rw [e, ih]
      have hm : q ∈ p :: F ↔ q ∈ F := by
        rw [List.mem_cons]
        exact ⟨fun z => z.resolve_left fun w => h w.symm, .inr⟩
      by_cases m : q ∈ F
      · rw [if_pos m, if_pos (hm.mpr m)]
      · rw [if_neg m, if_neg (fun z => m (hm.mp z))]
theorem put_kvG (v : Nat × Nat → D) (F : List (Nat × Nat)) (q : Nat × Nat) (h : q ∉ F) : putKV (kvG v F) (keyP q) (pr q) (v q) = kvG v (F ++ [q]) := by
  unfold putKV
  rw [any_getKV, get_kvG, if_neg h]
  unfold kvG
  rw [List.map_append]
  rfl
theorem notin_kvG (v : Nat × Nat → D) (F : List (Nat × Nat)) (q : Nat × Nat) : cmpD .NotIn (pr q) (.dct (kvG v F)) = some (!decide (q ∈ F)) := by
  have e : cmpD .NotIn (pr q) (.dct (kvG v F)) = ((keyD (pr q)).map fun k => (getKV (kvG v F) k).isSome).map (!·) := rfl
  rw [e, keyD_pr, Option.map_some, Option.map_some, get_kvG]
  by_cases h : q ∈ F
  · rw [if_pos h, decide_eq_true h]; rfl
  · rw [if_neg h, decide_eq_false h]; rfl
theorem item_kvG (v : Nat × Nat → D) (F : List (Nat × Nat)) (q : Nat × Nat) (h : q ∈ F) : itemD (.dct (kvG v F)) (pr q) = some (v q) := by
  have e : itemD (.dct (kvG v F)) (pr q) = (keyD (pr q)).bind fun k => getKV (kvG v F) k := rfl
  rw [e, keyD_pr, Option.bind_some, get_kvG, if_pos h]
theorem subD_at {S : Sto} {i : Nat} {kvs : List (D × D)} {k v : D} {kk : NestedKey} {ρ : Ev} (h : S[i]? = some (.dic kvs)) (hk : keyD k = some kk) (hl : kvs.length < LINE) : subD (.ref i) k v ρ S = .nx ρ (S.set i (.dic (putKV kvs kk k v))) := by
  have e : storeX i k v S = some (S.set i (.dic (putKV kvs kk k v))) := by simp [storeX, h, hk, hl]
  show (match storeX i k v S with
    | some S4 => O.nx ρ S4
    | none => .bad) = _
  rw [e]
theorem popS_at {S : Sto} {i : Nat} {ds : List D} {d : D} (h : S[i]? = some (.lst (ds ++ [d]))) : popS (.ref i) S = .ok d (S.set i (.lst ds)) := by
  simp only [popS, h]
  have e : (ds ++ [d])[(ds ++ [d]).length - 1]? = some d := by simp
  rw [e]
  simp
/-- what stands in a store stands in a longer one -/
theorem get_ext {S T : Sto} {i : Nat} {o : MO} (h : S[i]? = some o) : (S ++ T)[i]? = some o := by
  rw [List.getElem?_append_left (List.getElem?_eq_some_iff.mp h).1]; exact h
theorem ca_list_dct (kvs : List (D × D)) : callD "list" [.dct kvs] = some (.lst (kvs.map (·.1))) := id rfl
theorem kvG_keys (v : Nat × Nat → D) (F : List (Nat × Nat)) : (kvG v F).map (·.1) = F.map pr := by
  unfold kvG
  rw [List.map_map]; rfl
end Lw
set_option maxHeartbeats 0
namespace K29
open PySem PySem.Spec PyProof.Rows L2 Lw
def s_is_whole_b (C : Call) (ρ : Ev) (S : Sto) : O :=
(O.seq (R.run (R.bind (R.bind (rdT (getSl ρ 0) S) fun d2 S3 =>
 (R.opt ((isiD "int" (view S3 d2)).map D.bl) S3)) fun d4 S5 =>
 (andD d4 S5 fun S1 =>
 (R.bind (R.bind (rdT (getSl ρ 0) S1) fun d6 S7 =>
 (R.opt ((isiD "bool" (view S7 d6)).map D.bl) S7)) fun d8 S9 =>
 (R.opt ((truD (view S9 d8)).map fun b => D.bl (!b)) S9)))) ρ fun d10 S11 =>
 (.ret d10 S11)) fun ρ12 S13 =>
(.nx ρ12 S13))
def s_is_whole (C : Call) (a0 : D) (S : Sto) : R D := O.fin (s_is_whole_b C [.val a0] S)
def s_is_within_b (C : Call) (ρ : Ev) (S : Sto) : O :=
(O.seq (R.run (R.bind (R.bind (R.bind (rdE (getSl (fz ρ 0) 0) S) fun d2 S3 =>
 (.ok [d2] S3)) fun ds4 S5 =>
 (C "is_whole" ds4 S5)) fun d6 S7 =>
 (andD d6 S7 fun S1 =>
 (R.bind (rdT (getSl (fz ρ 0) 1) S1) fun d8 S9 =>
 (R.bind (rdT (getSl (fz ρ 0) 0) S9) fun d10 S11 =>
 (R.bind (R.opt (cmpD .LtE (view S11 d8) (view S11 d10)) S11) fun t12 S13 =>
 if t12 then (R.bind (rdT (getSl (fz ρ 0) 2) S13) fun d14 S15 =>
 (R.opt ((cmpD .LtE (view S15 d10) (view S15 d14)).map D.bl) S15)) else .ok (.bl false) S13))))) (fz ρ 0) fun d16 S17 =>
 (.ret d16 S17)) fun ρ18 S19 =>
(.nx ρ18 S19))
def s_is_within (C : Call) (a0 a1 a2 : D) (S : Sto) : R D := O.fin (s_is_within_b C [.val a0, .val a1, .val a2] S)
def s_are_rules_l1_b (C : Call) (ρ : Ev) (S : Sto) : O :=
 (O.seq (R.run (R.bind (R.bind (R.bind (R.bind (rdT (getSl ρ 3) S) fun d15 S16 =>
 (R.opt ((isiD "tuple" (view S16 d15)).map D.bl) S16)) fun d17 S18 =>
 (tstD d17 S18)) fun t19 S20 =>
 (.ok (!t19) S20)) fun t21 S22 =>
 (if t21 then .ok true S22 else (R.bind (R.bind (R.bind (R.bind (R.bind (rdT (getSl ρ 3) S22) fun d23 S24 =>
 (.ok [d23] S24)) fun ds25 S26 =>
 (R.opt (callD "len" (ds25.map (view S26))) S26)) fun d27 S28 =>
 (R.opt ((cmpD .NotEq (view S28 d27) (.int 3)).map D.bl) S28)) fun d29 S30 =>
 (blD d29 S30)) fun t31 S32 =>
 (if t31 then .ok true S32 else (R.bind (R.bind (R.bind (R.bind (R.bind (rdT (getSl ρ 3) S32) fun d33 S34 =>
 (R.opt (itemD (view S34 d33) (.int 0)) S34)) fun d35 S36 =>
 (R.bind (R.bind (R.bind (R.opt (binD .Sub (.int 5) (.int 1)) S36) fun d37 S38 =>
 (.ok [d37] S38)) fun ds39 S40 =>
 (.ok ((.int 0) :: ds39) S40)) fun ds41 S42 =>
 (.ok (d35 :: ds41) S42))) fun ds43 S44 =>
 (C "is_within" ds43 S44)) fun d45 S46 =>
 (tstD d45 S46)) fun t47 S48 =>
 (.ok (!t47) S48)))))) ρ fun t49 S50 =>
 (if t49 then (O.seq (.ret (.bl false) S50) fun ρ51 S52 =>
(.nx ρ51 S52)) else (.nx ρ S50))) fun ρ53 S54 =>
(O.seq (R.run (R.bind (R.bind (R.bind (R.bind (R.bind (R.bind (rdT (getSl ρ53 3) S54) fun d55 S56 =>
 (R.opt (itemD (view S56 d55) (.int 1)) S56)) fun d57 S58 =>
 (R.bind (R.bind (R.bind (R.bind (rdT (getSl ρ53 1) S58) fun d59 S60 =>
 (R.opt (binD .Sub (view S60 d59) (.int 1)) S60)) fun d61 S62 =>
 (.ok [d61] S62)) fun ds63 S64 =>
 (.ok ((.int 0) :: ds63) S64)) fun ds65 S66 =>
 (.ok (d57 :: ds65) S66))) fun ds67 S68 =>
 (C "is_within" ds67 S68)) fun d69 S70 =>
 (tstD d69 S70)) fun t71 S72 =>
 (.ok (!t71) S72)) fun t73 S74 =>
 (if t73 then .ok true S74 else (R.bind (R.bind (R.bind (R.bind (R.bind (R.bind (rdT (getSl ρ53 3) S74) fun d75 S76 =>
 (R.opt (itemD (view S76 d75) (.int 2)) S76)) fun d77 S78 =>
 (R.bind (R.bind (R.bind (R.bind (rdT (getSl ρ53 1) S78) fun d79 S80 =>
 (R.opt (binD .Sub (view S80 d79) (.int 1)) S80)) fun d81 S82 =>
 (.ok [d81] S82)) fun ds83 S84 =>
 (.ok ((.int 0) :: ds83) S84)) fun ds85 S86 =>
 (.ok (d77 :: ds85) S86))) fun ds87 S88 =>
 (C "is_within" ds87 S88)) fun d89 S90 =>
 (tstD d89 S90)) fun t91 S92 =>
 (.ok (!t91) S92)) fun t93 S94 =>
 (if t93 then .ok true S94 else (R.bind (R.bind (rdT (getSl ρ53 3) S94) fun d95 S96 =>
 (R.bind (rdT (getSl ρ53 2) S96) fun d97 S98 =>
 (R.opt ((cmpD .LtE (view S98 d95) (view S98 d97)).map D.bl) S98))) fun d99 S100 =>
 (blD d99 S100)))))) ρ53 fun t101 S102 =>
 (if t101 then (O.seq (.ret (.bl false) S102) fun ρ103 S104 =>
(.nx ρ103 S104)) else (.nx ρ53 S102))) fun ρ105 S106 =>
(O.seq (if decide (2 < (fz ρ105 3).length) then (R.run (rdE (getSl (fz ρ105 3) 3) S106) (fz ρ105 3) fun d107 S108 =>
 (.nx ((fz ρ105 3).set 2 (.val d107)) S108)) else .bad) fun ρ109 S110 =>
(.nx ρ109 S110))))
def s_are_rules_l1 (C : Call) (d : D) (ρ : Ev) (S : Sto) : O := asg1 (asgG 50 (.nm 3) d ρ) S (s_are_rules_l1_b C)
def s_are_rules_b (C : Call) (ρ : Ev) (S : Sto) : O :=
(O.seq (R.run (R.bind (R.bind (R.bind (rdT (getSl ρ 0) S) fun d1 S2 =>
 (R.opt ((isiD "tuple" (view S2 d1)).map D.bl) S2)) fun d3 S4 =>
 (tstD d3 S4)) fun t5 S6 =>
 (.ok (!t5) S6)) ρ fun t7 S8 =>
 (if t7 then (O.seq (.ret (.bl false) S8) fun ρ9 S10 =>
(.nx ρ9 S10)) else (.nx ρ S8))) fun ρ11 S12 =>
(O.seq (if decide (2 < ρ11.length) then (.nx (ρ11.set 2 (.val (.tup [(.int (-1)), (.int 0), (.int 0)]))) S12) else .bad) fun ρ13 S14 =>
(O.seq (R.run (R.bind (rdE (getSl (fz ρ13 0) 0) S14) fun d111 S112 =>
 (R.opt (itemsD d111) S112)) (fz ρ13 0) fun ds113 S114 =>
 (forL (s_are_rules_l1 C) ds113 (fz ρ13 0) S114)) fun ρ115 S116 =>
(O.seq (.ret (.bl true) S116) fun ρ117 S118 =>
(.nx ρ117 S118)))))
def s_are_rules (C : Call) (a0 a1 : D) (S : Sto) : R D := O.fin (s_are_rules_b C [.val a0, .val a1, .un, .un] S)
def s_is_schema_l1_b (C : Call) (ρ : Ev) (S : Sto) : O :=
 (O.seq (R.run (R.bind (R.bind (R.bind (R.bind (rdT (getSl ρ 2) S) fun d29 S30 =>
 (R.opt ((isiD "tuple" (view S30 d29)).map D.bl) S30)) fun d31 S32 =>
 (tstD d31 S32)) fun t33 S34 =>
 (.ok (!t33) S34)) fun t35 S36 =>
 (if t35 then .ok true S36 else (R.bind (R.bind (R.bind (R.bind (R.bind (rdT (getSl ρ 2) S36) fun d37 S38 =>
 (.ok [d37] S38)) fun ds39 S40 =>
 (R.opt (callD "len" (ds39.map (view S40))) S40)) fun d41 S42 =>
 (R.opt ((cmpD .NotEq (view S42 d41) (.int 2)).map D.bl) S42)) fun d43 S44 =>
 (blD d43 S44)) fun t45 S46 =>
 (if t45 then .ok true S46 else (R.bind (R.bind (R.bind (R.bind (rdT (getSl ρ 2) S46) fun d47 S48 =>
 (R.opt (itemD (view S48 d47) (.int 0)) S48)) fun d49 S50 =>
 (R.opt ((isiD "bool" (view S50 d49)).map D.bl) S50)) fun d51 S52 =>
 (tstD d51 S52)) fun t53 S54 =>
 (.ok (!t53) S54)))))) ρ fun t55 S56 =>
 (if t55 then (O.seq (.ret (.bl false) S56) fun ρ57 S58 =>
(.nx ρ57 S58)) else (.nx ρ S56))) fun ρ59 S60 =>
(O.seq (R.run (R.bind (R.bind (R.bind (R.bind (R.bind (rdT (getSl ρ59 2) S60) fun d61 S62 =>
 (R.opt (itemD (view S62 d61) (.int 1)) S62)) fun d63 S64 =>
 (R.bind (R.bind (R.bind (R.bind (rdT (getSl ρ59 0) S64) fun d65 S66 =>
 (.ok [d65] S66)) fun ds67 S68 =>
 (R.opt (callD "len" (ds67.map (view S68))) S68)) fun d69 S70 =>
 (.ok [d69] S70)) fun ds71 S72 =>
 (.ok (d63 :: ds71) S72))) fun ds73 S74 =>
 (C "are_rules" ds73 S74)) fun d75 S76 =>
 (tstD d75 S76)) fun t77 S78 =>
 (.ok (!t77) S78)) ρ59 fun t79 S80 =>
 (if t79 then (O.seq (.ret (.bl false) S80) fun ρ81 S82 =>
(.nx ρ81 S82)) else (.nx ρ59 S80))) fun ρ83 S84 =>
(O.seq (if decide (1 < ρ83.length) then (augS (getSl ρ83 1) fun d0 => (R.run (R.bind (R.bind (R.bind (rdT (getSl ρ83 2) S84) fun d85 S86 =>
 (R.opt (itemD (view S86 d85) (.int 1)) S86)) fun d87 S88 =>
 (.ok [d87] S88)) fun ds89 S90 =>
 (R.opt (callD "len" (ds89.map (view S90))) S90)) ρ83 fun d91 S92 =>
 (optS (augD .Add d0 d91) fun d2 => .nx (ρ83.set 1 (.val d2)) S92))) else .bad) fun ρ93 S94 =>
(.nx ρ93 S94))))
def s_is_schema_l1 (C : Call) (d : D) (ρ : Ev) (S : Sto) : O := asg1 (asgG 50 (.nm 2) d ρ) S (s_is_schema_l1_b C)
def s_is_schema_b (C : Call) (ρ : Ev) (S : Sto) : O :=
(O.seq (R.run (R.bind (R.bind (R.bind (R.bind (rdT (getSl ρ 0) S) fun d1 S2 =>
 (R.opt ((isiD "tuple" (view S2 d1)).map D.bl) S2)) fun d3 S4 =>
 (tstD d3 S4)) fun t5 S6 =>
 (.ok (!t5) S6)) fun t7 S8 =>
 (if t7 then .ok true S8 else (R.bind (R.bind (R.bind (R.bind (R.bind (rdT (getSl ρ 0) S8) fun d9 S10 =>
 (.ok [d9] S10)) fun ds11 S12 =>
 (R.opt (callD "len" (ds11.map (view S12))) S12)) fun d13 S14 =>
 (R.bind (R.opt (cmpD .LtE (.int 1) (view S14 d13)) S14) fun t15 S16 =>
 if t15 then (R.opt ((cmpD .LtE (view S16 d13) (.int 60)).map D.bl) S16) else .ok (.bl false) S16)) fun d17 S18 =>
 (blD d17 S18)) fun t19 S20 =>
 (.ok (!t19) S20)))) ρ fun t21 S22 =>
 (if t21 then (O.seq (.ret (.bl false) S22) fun ρ23 S24 =>
(.nx ρ23 S24)) else (.nx ρ S22))) fun ρ25 S26 =>
(O.seq (if decide (1 < ρ25.length) then (.nx (ρ25.set 1 (.val (.int 0))) S26) else .bad) fun ρ27 S28 =>
(O.seq (R.run (R.bind (rdE (getSl (fz ρ27 0) 0) S28) fun d95 S96 =>
 (R.opt (itemsD d95) S96)) (fz ρ27 0) fun ds97 S98 =>
 (forL (s_is_schema_l1 C) ds97 (fz ρ27 0) S98)) fun ρ99 S100 =>
(O.seq (R.run (R.bind (rdT (getSl ρ99 1) S100) fun d101 S102 =>
 (R.opt ((cmpD .LtE (view S102 d101) (.int 2000)).map D.bl) S102)) ρ99 fun d103 S104 =>
 (.ret d103 S104)) fun ρ105 S106 =>
(.nx ρ105 S106)))))
def s_is_schema (C : Call) (a0 : D) (S : Sto) : R D := O.fin (s_is_schema_b C [.val a0, .un, .un] S)
def s_check_schema_b (C : Call) (ρ : Ev) (S : Sto) : O :=
(O.seq (R.run (R.bind (R.bind (R.bind (R.bind (rdE (getSl (fz ρ 0) 0) S) fun d1 S2 =>
 (.ok [d1] S2)) fun ds3 S4 =>
 (C "is_schema" ds3 S4)) fun d5 S6 =>
 (tstD d5 S6)) fun t7 S8 =>
 (.ok (!t7) S8)) (fz ρ 0) fun t9 S10 =>
 (if t9 then (O.seq (.err "BadSchema" (fz ρ 0) S10) fun ρ11 S12 =>
(.nx ρ11 S12)) else (.nx (fz ρ 0) S10))) fun ρ13 S14 =>
(.nx ρ13 S14))
def s_check_schema (C : Call) (a0 : D) (S : Sto) : R D := O.fin (s_check_schema_b C [.val a0] S)
def s_schema_text_l2_b (C : Call) (ρ : Ev) (S : Sto) : O :=
 (O.seq (if decide (3 < ρ.length) then (augS (getSl ρ 3) fun d0 => (R.run (R.bind (R.bind (R.bind (R.bind (R.bind (R.bind (R.bind (rdT (getSl ρ 6) S) fun d21 S22 =>
 (.ok [d21] S22)) fun ds23 S24 =>
 (R.opt (callD "str" (ds23.map (view S24))) S24)) fun d25 S26 =>
 (R.opt (binD .Add (.str " ") (view S26 d25)) S26)) fun d27 S28 =>
 (R.opt (binD .Add (view S28 d27) (.str ".")) S28)) fun d29 S30 =>
 (R.bind (R.bind (R.bind (rdT (getSl ρ 7) S30) fun d31 S32 =>
 (.ok [d31] S32)) fun ds33 S34 =>
 (R.opt (callD "str" (ds33.map (view S34))) S34)) fun d35 S36 =>
 (R.opt (binD .Add (view S36 d29) (view S36 d35)) S36))) fun d37 S38 =>
 (R.opt (binD .Add (view S38 d37) (.str ".")) S38)) fun d39 S40 =>
 (R.bind (R.bind (R.bind (rdT (getSl ρ 8) S40) fun d41 S42 =>
 (.ok [d41] S42)) fun ds43 S44 =>
 (R.opt (callD "str" (ds43.map (view S44))) S44)) fun d45 S46 =>
 (R.opt (binD .Add (view S46 d39) (view S46 d45)) S46))) ρ fun d47 S48 =>
 (optS (augD .Add d0 d47) fun d2 => .nx (ρ.set 3 (.val d2)) S48))) else .bad) fun ρ49 S50 =>
(.nx ρ49 S50))
def s_schema_text_l2 (C : Call) (d : D) (ρ : Ev) (S : Sto) : O := asg1 (asgG 50 (.tp [(.nm 6), (.nm 7), (.nm 8)]) d ρ) S (s_schema_text_l2_b C)
def s_schema_text_l1_b (C : Call) (ρ : Ev) (S : Sto) : O :=
 (O.seq (if decide (3 < ρ.length) then (R.run (R.bind (R.bind (R.bind (rdT (getSl ρ 2) S) fun d3 S4 =>
 (.ok [d3] S4)) fun ds5 S6 =>
 (R.opt (callD "str" (ds5.map (view S6))) S6)) fun d7 S8 =>
 (R.opt (binD .Add (view S8 d7) (.str ":")) S8)) ρ fun d9 S10 =>
 (.nx (ρ.set 3 (.val d9)) S10)) else .bad) fun ρ11 S12 =>
(O.seq (R.run (R.bind (rdT (getSl (fz ρ11 4) 4) S12) fun d13 S14 =>
 (tstD d13 S14)) (fz ρ11 4) fun t15 S16 =>
 (if t15 then (O.seq (if decide (3 < (fz ρ11 4).length) then (augS (getSl (fz ρ11 4) 3) fun d0 => (optS (augD .Add d0 (.str " end")) fun d2 => .nx ((fz ρ11 4).set 3 (.val d2)) S16)) else .bad) fun ρ17 S18 =>
(.nx ρ17 S18)) else (.nx (fz ρ11 4) S16))) fun ρ19 S20 =>
(O.seq (R.run (R.bind (rdE (getSl (fz ρ19 5) 5) S20) fun d51 S52 =>
 (R.opt (itemsD d51) S52)) (fz ρ19 5) fun ds53 S54 =>
 (forL (s_schema_text_l2 C) ds53 (fz ρ19 5) S54)) fun ρ55 S56 =>
(O.seq (appN (getSl (fz ρ55 3) 1) S56 (fun ds => (R.run (rdE (getSl (fz ρ55 3) 3) S56) (fz ρ55 3) fun d57 S58 =>
 (if ds.length < LINE then .nx ((fz ρ55 3).set 1 (.own (ds ++ [d57]))) S58 else .bad))) fun iR => (R.run (rdE (getSl (fz ρ55 3) 3) S56) (fz ρ55 3) fun d59 S60 =>
 (appR iR d59 (fz ρ55 3) S60))) fun ρ61 S62 =>
(.nx ρ61 S62)))))
def s_schema_text_l1 (C : Call) (d : D) (ρ : Ev) (S : Sto) : O := asg1 (asgG 50 (.tp [(.nm 2), (.tp [(.nm 4), (.nm 5)])]) d ρ) S (s_schema_text_l1_b C)
def s_schema_text_b (C : Call) (ρ : Ev) (S : Sto) : O :=
(O.seq (if decide (1 < ρ.length) then (.nx (ρ.set 1 (.own [])) S) else .bad) fun ρ1 S2 =>
(O.seq (R.run (R.bind (R.bind (rdE (getSl (fz ρ1 0) 0) S2) fun d63 S64 =>
 (.ok [d63] S64)) fun ds65 S66 =>
 (enumA ds65 S66)) (fz ρ1 0) fun ds67 S68 =>
 (forL (s_schema_text_l1 C) ds67 (fz ρ1 0) S68)) fun ρ69 S70 =>
(O.seq (R.run (strM (.str "
") fun z71 => (R.bind (rdE (getSl (fz ρ69 1) 1) S70) fun d72 S73 =>
 (R.opt (joinD z71 d72) S73))) (fz ρ69 1) fun d74 S75 =>
 (.ret d74 S75)) fun ρ76 S77 =>
(.nx ρ76 S77))))
def s_schema_text (C : Call) (a0 : D) (S : Sto) : R D := O.fin (s_schema_text_b C [.val a0, .un, .un, .un, .un, .un, .un, .un, .un] S)
def s_written_schema_b (C : Call) (ρ : Ev) (S : Sto) : O :=
(O.seq (R.run (R.bind (R.bind (rdE (getSl (fz ρ 0) 0) S) fun d1 S2 =>
 (.ok [d1] S2)) fun ds3 S4 =>
 (C "check_schema" ds3 S4)) (fz ρ 0) fun d5 S6 =>
 (.nx (fz ρ 0) S6)) fun ρ7 S8 =>
(O.seq (R.run (R.bind (R.bind (rdE (getSl (fz ρ7 0) 0) S8) fun d9 S10 =>
 (.ok [d9] S10)) fun ds11 S12 =>
 (C "schema_text" ds11 S12)) (fz ρ7 0) fun d13 S14 =>
 (.ret d13 S14)) fun ρ15 S16 =>
(.nx ρ15 S16)))
def s_written_schema (C : Call) (a0 : D) (S : Sto) : R D := O.fin (s_written_schema_b C [.val a0] S)
def s_number_in_l1_b (C : Call) (ρ : Ev) (S : Sto) : O :=
 (O.seq (R.run (R.bind (R.bind (R.bind (rdT (getSl ρ 1) S) fun d19 S20 =>
 (R.bind (R.opt (cmpD .LtE (.str "0") (view S20 d19)) S20) fun t21 S22 =>
 if t21 then (R.opt ((cmpD .LtE (view S22 d19) (.str "9")).map D.bl) S22) else .ok (.bl false) S22)) fun d23 S24 =>
 (blD d23 S24)) fun t25 S26 =>
 (.ok (!t25) S26)) ρ fun t27 S28 =>
 (if t27 then (O.seq (.err "BadText" ρ S28) fun ρ29 S30 =>
(.nx ρ29 S30)) else (.nx ρ S28))) fun ρ31 S32 =>
(.nx ρ31 S32))
def s_number_in_l1 (C : Call) (d : D) (ρ : Ev) (S : Sto) : O := asg1 (asgG 50 (.nm 1) d ρ) S (s_number_in_l1_b C)
def s_number_in_b (C : Call) (ρ : Ev) (S : Sto) : O :=
(O.seq (R.run (R.bind (R.bind (R.bind (R.bind (R.bind (rdT (getSl ρ 0) S) fun d1 S2 =>
 (.ok [d1] S2)) fun ds3 S4 =>
 (R.opt (callD "len" (ds3.map (view S4))) S4)) fun d5 S6 =>
 (R.bind (R.opt (cmpD .LtE (.int 1) (view S6 d5)) S6) fun t7 S8 =>
 if t7 then (R.opt ((cmpD .LtE (view S8 d5) (.int 2)).map D.bl) S8) else .ok (.bl false) S8)) fun d9 S10 =>
 (blD d9 S10)) fun t11 S12 =>
 (.ok (!t11) S12)) ρ fun t13 S14 =>
 (if t13 then (O.seq (.err "BadText" ρ S14) fun ρ15 S16 =>
(.nx ρ15 S16)) else (.nx ρ S14))) fun ρ17 S18 =>
(O.seq (R.run (R.bind (rdE (getSl (fz ρ17 0) 0) S18) fun d33 S34 =>
 (R.opt (itemsD d33) S34)) (fz ρ17 0) fun ds35 S36 =>
 (forL (s_number_in_l1 C) ds35 (fz ρ17 0) S36)) fun ρ37 S38 =>
(O.seq (R.run (R.bind (R.bind (rdT (getSl ρ37 0) S38) fun d39 S40 =>
 (.ok [d39] S40)) fun ds41 S42 =>
 (R.opt (callD "int" (ds41.map (view S42))) S42)) ρ37 fun d43 S44 =>
 (.ret d43 S44)) fun ρ45 S46 =>
(.nx ρ45 S46))))
def s_number_in (C : Call) (a0 : D) (S : Sto) : R D := O.fin (s_number_in_b C [.val a0, .un] S)
def s_rule_in_c1_t (C : Call) (ρ : Ev) (S : Sto) : R Bool :=
 .ok true S
def s_rule_in_c1_e (C : Call) (ρ : Ev) (S : Sto) : R D :=
 (R.bind (R.bind (rdE (getSl ρ 2) S) fun d22 S23 =>
 (.ok [d22] S23)) fun ds24 S25 =>
 (C "number_in" ds24 S25))
def s_rule_in_c1 (C : Call) (ρ : Ev) (d : D) (S : Sto) : R (Option D) := lcStep (s_rule_in_c1_t C) (s_rule_in_c1_e C) S (asgG 50 (.nm 2) d (wipeE ρ [2]))
def s_rule_in_b (C : Call) (ρ : Ev) (S : Sto) : O :=
(O.seq (if decide (1 < ρ.length) then (R.run (R.bind (rdT (getSl ρ 0) S) fun d2 S3 =>
 (strM d2 fun z1 => (R.opt (splitD z1 (.str ".")) S3))) ρ fun d4 S5 =>
 (.nx (ρ.set 1 (.val d4)) S5)) else .bad) fun ρ6 S7 =>
(O.seq (R.run (R.bind (R.bind (R.bind (R.bind (rdT (getSl ρ6 1) S7) fun d8 S9 =>
 (.ok [d8] S9)) fun ds10 S11 =>
 (R.opt (callD "len" (ds10.map (view S11))) S11)) fun d12 S13 =>
 (R.opt ((cmpD .NotEq (view S13 d12) (.int 3)).map D.bl) S13)) fun d14 S15 =>
 (blD d14 S15)) ρ6 fun t16 S17 =>
 (if t16 then (O.seq (.err "BadText" ρ6 S17) fun ρ18 S19 =>
(.nx ρ18 S19)) else (.nx ρ6 S17))) fun ρ20 S21 =>
(O.seq (R.run (R.bind (R.bind (R.bind (R.bind (rdE (getSl (fz (fz ρ20 1) 2) 1) S21) fun d26 S27 =>
 (R.opt (itemsD d26) S27)) fun ds28 S29 =>
 (if (ds28).length ≤ LINE then R.bind (compL (s_rule_in_c1 C (fz (fz ρ20 1) 2)) ds28 [] S29) fun ys S5 => .ok (.lst ys) S5 else .bad)) fun d30 S31 =>
 (.ok [d30] S31)) fun ds32 S33 =>
 (R.opt (callD "tuple" (ds32.map (view S33))) S33)) (fz (fz ρ20 1) 2) fun d34 S35 =>
 (.ret d34 S35)) fun ρ36 S37 =>
(.nx ρ36 S37))))
def s_rule_in (C : Call) (a0 : D) (S : Sto) : R D := O.fin (s_rule_in_b C [.val a0, .un, .un] S)
def s_state_in_c1_t (C : Call) (ρ : Ev) (S : Sto) : R Bool :=
 .ok true S
def s_state_in_c1_e (C : Call) (ρ : Ev) (S : Sto) : R D :=
 (R.bind (R.bind (rdE (getSl ρ 3) S) fun d38 S39 =>
 (.ok [d38] S39)) fun ds40 S41 =>
 (C "rule_in" ds40 S41))
def s_state_in_c1 (C : Call) (ρ : Ev) (d : D) (S : Sto) : R (Option D) := lcStep (s_state_in_c1_t C) (s_state_in_c1_e C) S (asgG 50 (.nm 3) d (wipeE ρ [3]))
def s_state_in_b (C : Call) (ρ : Ev) (S : Sto) : O :=
(O.seq (if decide (1 < ρ.length) then (R.run (R.bind (R.bind (rdT (getSl ρ 0) S) fun d2 S3 =>
 (strM d2 fun z1 => (R.opt (splitD z1 (.str " ")) S3))) fun d4 S5 =>
 (R.bind (ixD (.int 1) S5) fun o6 S7 =>
 (R.opt (sliceD (view S7 d4) o6 none) S7))) ρ fun d8 S9 =>
 (.nx (ρ.set 1 (.val d8)) S9)) else .bad) fun ρ10 S11 =>
(O.seq (if decide (2 < ρ10.length) then (R.run (R.bind (R.bind (rdT (getSl ρ10 1) S11) fun d12 S13 =>
 (R.bind (ixD (.int 1) S13) fun o14 S15 =>
 (R.opt (sliceD (view S15 d12) none o14) S15))) fun d16 S17 =>
 (R.opt ((cmpD .Eq (view S17 d16) (view S17 (.lst [(.str "end")]))).map D.bl) S17)) ρ10 fun d18 S19 =>
 (.nx (ρ10.set 2 (.val d18)) S19)) else .bad) fun ρ20 S21 =>
(O.seq (R.run (R.bind (rdT (getSl (fz ρ20 2) 2) S21) fun d22 S23 =>
 (tstD d22 S23)) (fz ρ20 2) fun t24 S25 =>
 (if t24 then (O.seq (if decide (1 < (fz ρ20 2).length) then (R.run (R.bind (rdT (getSl (fz ρ20 2) 1) S25) fun d26 S27 =>
 (R.bind (ixD (.int 1) S27) fun o28 S29 =>
 (R.opt (sliceD (view S29 d26) o28 none) S29))) (fz ρ20 2) fun d30 S31 =>
 (.nx ((fz ρ20 2).set 1 (.val d30)) S31)) else .bad) fun ρ32 S33 =>
(.nx ρ32 S33)) else (.nx (fz ρ20 2) S25))) fun ρ34 S35 =>
(O.seq (R.run (R.bind (R.bind (rdE (getSl (fz (fz (fz ρ34 2) 1) 3) 2) S35) fun d36 S37 =>
 (R.bind (R.bind (R.bind (R.bind (R.bind (R.bind (rdE (getSl (fz (fz (fz ρ34 2) 1) 3) 1) S37) fun d42 S43 =>
 (R.opt (itemsD d42) S43)) fun ds44 S45 =>
 (if (ds44).length ≤ LINE then R.bind (compL (s_state_in_c1 C (fz (fz (fz ρ34 2) 1) 3)) ds44 [] S45) fun ys S5 => .ok (.lst ys) S5 else .bad)) fun d46 S47 =>
 (.ok [d46] S47)) fun ds48 S49 =>
 (R.opt (callD "tuple" (ds48.map (view S49))) S49)) fun d50 S51 =>
 (.ok [d50] S51)) fun ds52 S53 =>
 (.ok (d36 :: ds52) S53))) fun ds54 S55 =>
 (if (ds54).length ≤ LINE then .ok (.tup ds54) S55 else .bad)) (fz (fz (fz ρ34 2) 1) 3) fun d56 S57 =>
 (.ret d56 S57)) fun ρ58 S59 =>
(.nx ρ58 S59)))))
def s_state_in (C : Call) (a0 : D) (S : Sto) : R D := O.fin (s_state_in_b C [.val a0, .un, .un, .un] S)
def s_read_schema_c1_t (C : Call) (ρ : Ev) (S : Sto) : R Bool :=
 .ok true S
def s_read_schema_c1_e (C : Call) (ρ : Ev) (S : Sto) : R D :=
 (R.bind (R.bind (rdE (getSl ρ 3) S) fun d48 S49 =>
 (.ok [d48] S49)) fun ds50 S51 =>
 (C "state_in" ds50 S51))
def s_read_schema_c1 (C : Call) (ρ : Ev) (d : D) (S : Sto) : R (Option D) := lcStep (s_read_schema_c1_t C) (s_read_schema_c1_e C) S (asgG 50 (.nm 3) d (wipeE ρ [3]))
def s_read_schema_b (C : Call) (ρ : Ev) (S : Sto) : O :=
(O.seq (R.run (R.bind (R.bind (R.bind (R.bind (rdT (getSl ρ 0) S) fun d1 S2 =>
 (R.opt ((isiD "str" (view S2 d1)).map D.bl) S2)) fun d3 S4 =>
 (tstD d3 S4)) fun t5 S6 =>
 (.ok (!t5) S6)) fun t7 S8 =>
 (if t7 then .ok true S8 else (R.bind (R.bind (R.bind (R.bind (rdT (getSl ρ 0) S8) fun d9 S10 =>
 (.ok [d9] S10)) fun ds11 S12 =>
 (R.opt (callD "len" (ds11.map (view S12))) S12)) fun d13 S14 =>
 (R.bind (R.bind (R.opt (binD .Add (.int 2000) (.int 60)) S14) fun d15 S16 =>
 (R.opt (binD .Mult (.int 9) (view S16 d15)) S16)) fun d17 S18 =>
 (R.opt ((cmpD .Gt (view S18 d13) (view S18 d17)).map D.bl) S18))) fun d19 S20 =>
 (blD d19 S20)))) ρ fun t21 S22 =>
 (if t21 then (O.seq (.err "BadText" ρ S22) fun ρ23 S24 =>
(.nx ρ23 S24)) else (.nx ρ S22))) fun ρ25 S26 =>
(O.seq (if decide (1 < ρ25.length) then (R.run (R.bind (rdT (getSl ρ25 0) S26) fun d28 S29 =>
 (strM d28 fun z27 => (R.opt (splitD z27 (.str "
")) S29))) ρ25 fun d30 S31 =>
 (.nx (ρ25.set 1 (.val d30)) S31)) else .bad) fun ρ32 S33 =>
(O.seq (R.run (R.bind (R.bind (R.bind (R.bind (rdT (getSl ρ32 1) S33) fun d34 S35 =>
 (.ok [d34] S35)) fun ds36 S37 =>
 (R.opt (callD "len" (ds36.map (view S37))) S37)) fun d38 S39 =>
 (R.opt ((cmpD .Gt (view S39 d38) (.int 60)).map D.bl) S39)) fun d40 S41 =>
 (blD d40 S41)) ρ32 fun t42 S43 =>
 (if t42 then (O.seq (.err "BadText" ρ32 S43) fun ρ44 S45 =>
(.nx ρ44 S45)) else (.nx ρ32 S43))) fun ρ46 S47 =>
(O.seq (if decide (2 < (fz (fz ρ46 1) 3).length) then (R.run (R.bind (R.bind (R.bind (R.bind (rdE (getSl (fz (fz ρ46 1) 3) 1) S47) fun d52 S53 =>
 (R.opt (itemsD d52) S53)) fun ds54 S55 =>
 (if (ds54).length ≤ LINE then R.bind (compL (s_read_schema_c1 C (fz (fz ρ46 1) 3)) ds54 [] S55) fun ys S5 => .ok (.lst ys) S5 else .bad)) fun d56 S57 =>
 (.ok [d56] S57)) fun ds58 S59 =>
 (R.opt (callD "tuple" (ds58.map (view S59))) S59)) (fz (fz ρ46 1) 3) fun d60 S61 =>
 (.nx ((fz (fz ρ46 1) 3).set 2 (.val d60)) S61)) else .bad) fun ρ62 S63 =>
(O.seq (R.run (R.bind (R.bind (R.bind (R.bind (R.bind (rdE (getSl (fz (fz ρ62 2) 2) 2) S63) fun d64 S65 =>
 (.ok [d64] S65)) fun ds66 S67 =>
 (C "is_schema" ds66 S67)) fun d68 S69 =>
 (tstD d68 S69)) fun t70 S71 =>
 (.ok (!t70) S71)) fun t72 S73 =>
 (if t72 then .ok true S73 else (R.bind (R.bind (R.bind (R.bind (rdE (getSl (fz (fz ρ62 2) 2) 2) S73) fun d74 S75 =>
 (.ok [d74] S75)) fun ds76 S77 =>
 (C "schema_text" ds76 S77)) fun d78 S79 =>
 (R.bind (rdT (getSl (fz (fz ρ62 2) 2) 0) S79) fun d80 S81 =>
 (R.opt ((cmpD .NotEq (view S81 d78) (view S81 d80)).map D.bl) S81))) fun d82 S83 =>
 (blD d82 S83)))) (fz (fz ρ62 2) 2) fun t84 S85 =>
 (if t84 then (O.seq (.err "BadText" (fz (fz ρ62 2) 2) S85) fun ρ86 S87 =>
(.nx ρ86 S87)) else (.nx (fz (fz ρ62 2) 2) S85))) fun ρ88 S89 =>
(O.seq (R.run (rdE (getSl (fz ρ88 2) 2) S89) (fz ρ88 2) fun d90 S91 =>
 (.ret d90 S91)) fun ρ92 S93 =>
(.nx ρ92 S93)))))))
def s_read_schema (C : Call) (a0 : D) (S : Sto) : R D := O.fin (s_read_schema_b C [.val a0, .un, .un, .un] S)
def s__law_box_c1_t (C : Call) (ρ : Ev) (S : Sto) : R Bool :=
 .ok true S
def s__law_box_c1_e (C : Call) (ρ : Ev) (S : Sto) : R D :=
 (R.bind (R.bind (R.bind (R.bind (rdT (getSl ρ 1) S) fun d1 S2 =>
 (.ok [d1] S2)) fun ds3 S4 =>
 (R.opt (callD "int" (ds3.map (view S4))) S4)) fun d5 S6 =>
 (.ok [d5] S6)) fun ds7 S8 =>
 (R.opt (callD "abs" (ds7.map (view S8))) S8))
def s__law_box_c1 (C : Call) (ρ : Ev) (d : D) (S : Sto) : R (Option D) := lcStep (s__law_box_c1_t C) (s__law_box_c1_e C) S (asgG 50 (.nm 1) d (wipeE ρ [1]))
def s__law_box_b (C : Call) (ρ : Ev) (S : Sto) : O :=
(O.seq (R.run (R.bind (R.bind (R.bind (R.bind (R.bind (R.bind (rdE (getSl (fz ρ 0) 0) S) fun d9 S10 =>
 (R.opt (itemsD d9) S10)) fun ds11 S12 =>
 (if (ds11).length ≤ LINE then R.bind (compL (s__law_box_c1 C (fz ρ 0)) ds11 [] S12) fun ys S5 => .ok (.lst ys) S5 else .bad)) fun d13 S14 =>
 (.ok [d13] S14)) fun ds15 S16 =>
 (.ok ((.int 0) :: ds15) S16)) fun ds17 S18 =>
 (.ok ((.int 0) :: ds17) S18)) fun ds19 S20 =>
 (.ok ((.int 0) :: ds19) S20)) (fz ρ 0) fun ds21 S22 =>
 (if (ds21).length ≤ LINE then .ret (.ref S22.length) (S22 ++ [.lst ds21]) else .bad)) fun ρ23 S24 =>
(.nx ρ23 S24))
def s__law_box (C : Call) (a0 : D) (S : Sto) : R D := O.fin (s__law_box_b C [.val a0, .un] S)
def s__law_take_b (C : Call) (ρ : Ev) (S : Sto) : O :=
(O.seq (R.run (R.bind (R.bind (R.bind (rdT (getSl ρ 0) S) fun d1 S2 =>
 (R.opt (itemD (view S2 d1) (.int 1)) S2)) fun d3 S4 =>
 (R.opt ((cmpD .Eq (view S4 d3) (.int 0)).map D.bl) S4)) fun d5 S6 =>
 (blD d5 S6)) ρ fun t7 S8 =>
 (if t7 then (O.seq (if decide (2 < ρ.length) then (R.run (R.bind (rdT (getSl ρ 0) S8) fun d9 S10 =>
 (R.opt (itemD (view S10 d9) (.int 2)) S10)) ρ fun d11 S12 =>
 (.nx (ρ.set 2 (.val d11)) S12)) else .bad) fun ρ13 S14 =>
(O.seq (if decide (3 < ρ13.length) then (.nx (ρ13.set 3 (.val (.int 0))) S14) else .bad) fun ρ15 S16 =>
(O.seq (R.run (R.bind (R.bind (rdT (getSl ρ15 2) S16) fun d17 S18 =>
 (R.bind (R.bind (R.bind (R.bind (rdT (getSl ρ15 0) S18) fun d19 S20 =>
 (R.opt (itemD (view S20 d19) (.int 3)) S20)) fun d21 S22 =>
 (.ok [d21] S22)) fun ds23 S24 =>
 (R.opt (callD "len" (ds23.map (view S24))) S24)) fun d25 S26 =>
 (R.opt ((cmpD .Lt (view S26 d17) (view S26 d25)).map D.bl) S26))) fun d27 S28 =>
 (blD d27 S28)) ρ15 fun t29 S30 =>
 (if t29 then (O.seq (if decide (3 < (fz ρ15 2).length) then (R.run (R.bind (R.bind (rdT (getSl (fz ρ15 2) 0) S30) fun d31 S32 =>
 (R.opt (itemD (view S32 d31) (.int 3)) S32)) fun d33 S34 =>
 (R.bind (rdE (getSl (fz ρ15 2) 2) S34) fun d35 S36 =>
 (R.opt (itemD (view S36 d33) d35) S36))) (fz ρ15 2) fun d37 S38 =>
 (.nx ((fz ρ15 2).set 3 (.val d37)) S38)) else .bad) fun ρ39 S40 =>
(O.seq (R.run (R.bind (R.bind (R.bind (rdT (getSl ρ39 3) S40) fun d41 S42 =>
 (R.bind (R.opt (binD .Pow (.int 10) (.int 18)) S42) fun d43 S44 =>
 (R.opt ((cmpD .GtE (view S44 d41) (view S44 d43)).map D.bl) S44))) fun d45 S46 =>
 (blD d45 S46)) fun t47 S48 =>
 (if t47 then (.ok (.int 60) S48) else (.ok (.int (-9)) S48))) ρ39 fun d49 S50 =>
 (R.run (rdE (getSl ρ39 0) S50) ρ39 fun d51 S52 =>
 (subD d51 (.int 1) d49 ρ39 S52))) fun ρ53 S54 =>
(.nx ρ53 S54))) else (.nx ρ15 S30))) fun ρ55 S56 =>
(O.seq (R.run (R.bind (rdT (getSl ρ55 2) S56) fun d57 S58 =>
 (R.opt (binD .Add (view S58 d57) (.int 1)) S58)) ρ55 fun d59 S60 =>
 (R.run (rdE (getSl ρ55 0) S60) ρ55 fun d61 S62 =>
 (subD d61 (.int 2) d59 ρ55 S62))) fun ρ63 S64 =>
(O.seq (R.run (rdE (getSl (fz ρ63 3) 3) S64) (fz ρ63 3) fun d65 S66 =>
 (R.run (rdE (getSl (fz ρ63 3) 0) S66) (fz ρ63 3) fun d67 S68 =>
 (subD d67 (.int 0) d65 (fz ρ63 3) S68))) fun ρ69 S70 =>
(O.seq (R.run (R.bind (R.bind (R.bind (rdT (getSl ρ69 0) S70) fun d71 S72 =>
 (R.opt (itemD (view S72 d71) (.int 1)) S72)) fun d73 S74 =>
 (R.opt ((cmpD .Eq (view S74 d73) (.int 0)).map D.bl) S74)) fun d75 S76 =>
 (blD d75 S76)) ρ69 fun t77 S78 =>
 (if t77 then (O.seq (.ret (.int 0) S78) fun ρ79 S80 =>
(.nx ρ79 S80)) else (.nx ρ69 S78))) fun ρ81 S82 =>
(.nx ρ81 S82))))))) else (.nx ρ S8))) fun ρ83 S84 =>
(O.seq (R.run (R.bind (R.bind (R.bind (rdT (getSl ρ83 0) S84) fun d85 S86 =>
 (R.opt (itemD (view S86 d85) (.int 1)) S86)) fun d87 S88 =>
 (R.opt ((cmpD .Gt (view S88 d87) (.int 0)).map D.bl) S88)) fun d89 S90 =>
 (blD d89 S90)) ρ83 fun t91 S92 =>
 (if t91 then (O.seq (if decide (4 < ρ83.length) then (R.run (R.bind (R.bind (R.bind (R.bind (rdT (getSl ρ83 0) S92) fun d93 S94 =>
 (R.opt (itemD (view S94 d93) (.int 0)) S94)) fun d95 S96 =>
 (.ok [d95] S96)) fun ds97 S98 =>
 (R.opt (callD "int" (ds97.map (view S98))) S98)) fun d99 S100 =>
 (R.bind (rdT (getSl ρ83 1) S100) fun d101 S102 =>
 (R.opt (binD .Mod (view S102 d99) (view S102 d101)) S102))) ρ83 fun d103 S104 =>
 (.nx (ρ83.set 4 (.val d103)) S104)) else .bad) fun ρ105 S106 =>
(O.seq (R.run (R.bind (R.bind (rdT (getSl ρ105 0) S106) fun d107 S108 =>
 (R.opt (itemD (view S108 d107) (.int 0)) S108)) fun d109 S110 =>
 (R.bind (rdT (getSl ρ105 1) S110) fun d111 S112 =>
 (R.opt (binD .FloorDiv (view S112 d109) (view S112 d111)) S112))) ρ105 fun d113 S114 =>
 (R.run (rdE (getSl ρ105 0) S114) ρ105 fun d115 S116 =>
 (subD d115 (.int 0) d113 ρ105 S116))) fun ρ117 S118 =>
(O.seq (R.run (R.bind (R.bind (R.bind (R.bind (rdT (getSl ρ117 0) S118) fun d119 S120 =>
 (R.opt (itemD (view S120 d119) (.int 0)) S120)) fun d121 S122 =>
 (R.opt ((cmpD .Gt (view S122 d121) (.int 0)).map D.bl) S122)) fun d123 S124 =>
 (blD d123 S124)) fun t125 S126 =>
 (if t125 then (R.bind (R.bind (rdT (getSl ρ117 0) S126) fun d127 S128 =>
 (R.opt (itemD (view S128 d127) (.int 1)) S128)) fun d129 S130 =>
 (R.opt (binD .Sub (view S130 d129) (.int 1)) S130)) else (.ok (.int 0) S126))) ρ117 fun d131 S132 =>
 (R.run (rdE (getSl ρ117 0) S132) ρ117 fun d133 S134 =>
 (subD d133 (.int 1) d131 ρ117 S134))) fun ρ135 S136 =>
(O.seq (R.run (rdE (getSl (fz ρ135 4) 4) S136) (fz ρ135 4) fun d137 S138 =>
 (.ret d137 S138)) fun ρ139 S140 =>
(.nx ρ139 S140))))) else (.nx ρ83 S92))) fun ρ141 S142 =>
(O.seq (R.run (R.bind (R.bind (rdT (getSl ρ141 0) S142) fun d143 S144 =>
 (R.opt (itemD (view S144 d143) (.int 1)) S144)) fun d145 S146 =>
 (R.opt (binD .Add (view S146 d145) (.int 1)) S146)) ρ141 fun d147 S148 =>
 (R.run (rdE (getSl ρ141 0) S148) ρ141 fun d149 S150 =>
 (subD d149 (.int 1) d147 ρ141 S150))) fun ρ151 S152 =>
(O.seq (R.run (R.bind (R.bind (R.bind (R.bind (R.bind (R.bind (rdT (getSl ρ151 0) S152) fun d153 S154 =>
 (R.opt (itemD (view S154 d153) (.int 0)) S154)) fun d155 S156 =>
 (R.opt (binD .Mult (view S156 d155) (.int 48271)) S156)) fun d157 S158 =>
 (R.bind (R.bind (R.bind (R.bind (rdT (getSl ρ151 0) S158) fun d159 S160 =>
 (R.opt (itemD (view S160 d159) (.int 1)) S160)) fun d161 S162 =>
 (R.opt (binD .Add (view S162 d161) (.int 20)) S162)) fun d163 S164 =>
 (R.opt (binD .Mult (.int 69621) (view S164 d163)) S164)) fun d165 S166 =>
 (R.opt (binD .Add (view S166 d157) (view S166 d165)) S166))) fun d167 S168 =>
 (.ok [d167] S168)) fun ds169 S170 =>
 (R.opt (callD "int" (ds169.map (view S170))) S170)) fun d171 S172 =>
 (R.opt (binD .Mod (view S172 d171) (.int 2147483647)) S172)) ρ151 fun d173 S174 =>
 (R.run (rdE (getSl ρ151 0) S174) ρ151 fun d175 S176 =>
 (subD d175 (.int 0) d173 ρ151 S176))) fun ρ177 S178 =>
(O.seq (R.run (R.bind (R.bind (R.bind (R.bind (R.bind (R.bind (R.bind (rdT (getSl ρ177 0) S178) fun d179 S180 =>
 (R.opt (itemD (view S180 d179) (.int 0)) S180)) fun d181 S182 =>
 (R.opt (binD .FloorDiv (view S182 d181) (.int 7)) S182)) fun d183 S184 =>
 (R.bind (R.bind (rdT (getSl ρ177 0) S184) fun d185 S186 =>
 (R.opt (itemD (view S186 d185) (.int 0)) S186)) fun d187 S188 =>
 (R.opt (binD .Add (view S188 d183) (view S188 d187)) S188))) fun d189 S190 =>
 (.ok [d189] S190)) fun ds191 S192 =>
 (R.opt (callD "int" (ds191.map (view S192))) S192)) fun d193 S194 =>
 (R.opt (binD .Mod (view S194 d193) (.int 1000003)) S194)) fun d195 S196 =>
 (R.bind (rdT (getSl ρ177 1) S196) fun d197 S198 =>
 (R.opt (binD .Mod (view S198 d195) (view S198 d197)) S198))) ρ177 fun d199 S200 =>
 (.ret d199 S200)) fun ρ201 S202 =>
(.nx ρ201 S202))))))
def s__law_take (C : Call) (a0 a1 : D) (S : Sto) : R D := O.fin (s__law_take_b C [.val a0, .val a1, .un, .un, .un] S)
def s__law_pick_b (C : Call) (ρ : Ev) (S : Sto) : O :=
(O.seq (R.run (R.bind (rdT (getSl (fz ρ 0) 1) S) fun d1 S2 =>
 (R.bind (R.bind (R.bind (rdE (getSl (fz ρ 0) 0) S2) fun d3 S4 =>
 (R.bind (R.bind (R.bind (R.bind (rdT (getSl (fz ρ 0) 1) S4) fun d5 S6 =>
 (.ok [d5] S6)) fun ds7 S8 =>
 (R.opt (callD "len" (ds7.map (view S8))) S8)) fun d9 S10 =>
 (.ok [d9] S10)) fun ds11 S12 =>
 (.ok (d3 :: ds11) S12))) fun ds13 S14 =>
 (C "_law_take" ds13 S14)) fun d15 S16 =>
 (R.opt (itemD (view S16 d1) d15) S16))) (fz ρ 0) fun d17 S18 =>
 (.ret d17 S18)) fun ρ19 S20 =>
(.nx ρ19 S20))
def s__law_pick (C : Call) (a0 a1 : D) (S : Sto) : R D := O.fin (s__law_pick_b C [.val a0, .val a1] S)
def s__law_label_b (C : Call) (ρ : Ev) (S : Sto) : O :=
(O.seq (R.run (R.bind (R.bind (rdE (getSl (fz ρ 0) 0) S) fun d1 S2 =>
 (.ok [d1, (.lst [(.int 0), (.int 1), (.int 0), (.int 1), (.int 2), (.int 3), (.int 1), (.int 4)])] S2)) fun ds3 S4 =>
 (C "_law_pick" ds3 S4)) (fz ρ 0) fun d5 S6 =>
 (.ret d5 S6)) fun ρ7 S8 =>
(.nx ρ7 S8))
def s__law_label (C : Call) (a0 : D) (S : Sto) : R D := O.fin (s__law_label_b C [.val a0] S)
def s__law_document_l1_b (C : Call) (ρ : Ev) (S : Sto) : O :=
 (O.seq (if decide (4 < ρ.length) then (.nx (ρ.set 4 (.val (.tup []))) S) else .bad) fun ρ3 S4 =>
(O.seq (R.run (R.bind (R.bind (R.bind (rdT (getSl (fz ρ3 0) 1) S4) fun d5 S6 =>
 (R.opt ((cmpD .Gt (view S6 d5) (.int 1)).map D.bl) S6)) fun d7 S8 =>
 (blD d7 S8)) fun t9 S10 =>
 (if t9 then (R.bind (R.bind (R.bind (R.bind (rdE (getSl (fz ρ3 0) 0) S10) fun d11 S12 =>
 (.ok [d11, (.int 2)] S12)) fun ds13 S14 =>
 (C "_law_take" ds13 S14)) fun d15 S16 =>
 (R.opt ((cmpD .Eq (view S16 d15) (.int 0)).map D.bl) S16)) fun d17 S18 =>
 (blD d17 S18)) else .ok false S10)) (fz ρ3 0) fun t19 S20 =>
 (if t19 then (O.seq (if decide (4 < (fz (fz ρ3 0) 0).length) then (R.run (R.bind (R.bind (rdE (getSl (fz (fz ρ3 0) 0) 0) S20) fun d21 S22 =>
 (R.bind (R.bind (R.bind (rdT (getSl (fz (fz ρ3 0) 0) 1) S22) fun d23 S24 =>
 (R.opt (binD .Sub (view S24 d23) (.int 1)) S24)) fun d25 S26 =>
 (.ok [d25] S26)) fun ds27 S28 =>
 (.ok (d21 :: ds27) S28))) fun ds29 S30 =>
 (C "_law_document" ds29 S30)) (fz (fz ρ3 0) 0) fun d31 S32 =>
 (.nx ((fz (fz ρ3 0) 0).set 4 (.val d31)) S32)) else .bad) fun ρ33 S34 =>
(.nx ρ33 S34)) else (.nx (fz ρ3 0) S20))) fun ρ35 S36 =>
(O.seq (appN (getSl (fz (fz ρ35 0) 4) 2) S36 (fun ds => (R.run (R.bind (R.bind (R.bind (R.bind (rdE (getSl (fz (fz ρ35 0) 4) 0) S36) fun d37 S38 =>
 (.ok [d37] S38)) fun ds39 S40 =>
 (C "_law_label" ds39 S40)) fun d41 S42 =>
 (R.bind (R.bind (rdE (getSl (fz (fz ρ35 0) 4) 4) S42) fun d43 S44 =>
 (.ok [d43] S44)) fun ds45 S46 =>
 (.ok (d41 :: ds45) S46))) fun ds47 S48 =>
 (if (ds47).length ≤ LINE then .ok (.tup ds47) S48 else .bad)) (fz (fz ρ35 0) 4) fun d49 S50 =>
 (if ds.length < LINE then .nx ((fz (fz ρ35 0) 4).set 2 (.own (ds ++ [d49]))) S50 else .bad))) fun iR => (R.run (R.bind (R.bind (R.bind (R.bind (rdE (getSl (fz (fz ρ35 0) 4) 0) S36) fun d51 S52 =>
 (.ok [d51] S52)) fun ds53 S54 =>
 (C "_law_label" ds53 S54)) fun d55 S56 =>
 (R.bind (R.bind (rdE (getSl (fz (fz ρ35 0) 4) 4) S56) fun d57 S58 =>
 (.ok [d57] S58)) fun ds59 S60 =>
 (.ok (d55 :: ds59) S60))) fun ds61 S62 =>
 (if (ds61).length ≤ LINE then .ok (.tup ds61) S62 else .bad)) (fz (fz ρ35 0) 4) fun d63 S64 =>
 (appR iR d63 (fz (fz ρ35 0) 4) S64))) fun ρ65 S66 =>
(.nx ρ65 S66))))
def s__law_document_l1 (C : Call) (d : D) (ρ : Ev) (S : Sto) : O := asg1 (asgG 50 (.nm 3) d ρ) S (s__law_document_l1_b C)
def s__law_document_b (C : Call) (ρ : Ev) (S : Sto) : O :=
(O.seq (if decide (2 < ρ.length) then (.nx (ρ.set 2 (.own [])) S) else .bad) fun ρ1 S2 =>
(O.seq (R.run (R.bind (R.bind (R.bind (R.bind (rdE (getSl (fz ρ1 0) 0) S2) fun d67 S68 =>
 (.ok [d67, (.lst [(.int 0), (.int 1), (.int 1), (.int 2), (.int 3)])] S68)) fun ds69 S70 =>
 (C "_law_pick" ds69 S70)) fun d71 S72 =>
 (.ok [d71] S72)) fun ds73 S74 =>
 (rangeA1 ds73 S74)) (fz ρ1 0) fun ds75 S76 =>
 (forL (s__law_document_l1 C) ds75 (fz ρ1 0) S76)) fun ρ77 S78 =>
(O.seq (R.run (R.bind (R.bind (rdT (getSl ρ77 2) S78) fun d79 S80 =>
 (.ok [d79] S80)) fun ds81 S82 =>
 (R.opt (callD "tuple" (ds81.map (view S82))) S82)) ρ77 fun d83 S84 =>
 (.ret d83 S84)) fun ρ85 S86 =>
(.nx ρ85 S86))))
def s__law_document (C : Call) (a0 a1 : D) (S : Sto) : R D := O.fin (s__law_document_b C [.val a0, .val a1, .un, .un, .un] S)
def s__law_schema_l2_b (C : Call) (ρ : Ev) (S : Sto) : O :=
 (O.seq (if decide (7 < (fz (fz (fz (fz (fz ρ 0) 0) 2) 0) 2).length) then (R.run (R.bind (R.bind (R.bind (R.bind (rdE (getSl (fz (fz (fz (fz (fz ρ 0) 0) 2) 0) 2) 0) S) fun d19 S20 =>
 (.ok [d19] S20)) fun ds21 S22 =>
 (C "_law_label" ds21 S22)) fun d23 S24 =>
 (R.bind (R.bind (R.bind (R.bind (rdE (getSl (fz (fz (fz (fz (fz ρ 0) 0) 2) 0) 2) 0) S24) fun d25 S26 =>
 (R.bind (R.bind (rdE (getSl (fz (fz (fz (fz (fz ρ 0) 0) 2) 0) 2) 2) S26) fun d27 S28 =>
 (.ok [d27] S28)) fun ds29 S30 =>
 (.ok (d25 :: ds29) S30))) fun ds31 S32 =>
 (C "_law_take" ds31 S32)) fun d33 S34 =>
 (R.bind (R.bind (R.bind (R.bind (rdE (getSl (fz (fz (fz (fz (fz ρ 0) 0) 2) 0) 2) 0) S34) fun d35 S36 =>
 (R.bind (R.bind (rdE (getSl (fz (fz (fz (fz (fz ρ 0) 0) 2) 0) 2) 2) S36) fun d37 S38 =>
 (.ok [d37] S38)) fun ds39 S40 =>
 (.ok (d35 :: ds39) S40))) fun ds41 S42 =>
 (C "_law_take" ds41 S42)) fun d43 S44 =>
 (.ok [d43] S44)) fun ds45 S46 =>
 (.ok (d33 :: ds45) S46))) fun ds47 S48 =>
 (.ok (d23 :: ds47) S48))) fun ds49 S50 =>
 (if (ds49).length ≤ LINE then .ok (.tup ds49) S50 else .bad)) (fz (fz (fz (fz (fz ρ 0) 0) 2) 0) 2) fun d51 S52 =>
 (.nx ((fz (fz (fz (fz (fz ρ 0) 0) 2) 0) 2).set 7 (.val d51)) S52)) else .bad) fun ρ53 S54 =>
(O.seq (R.run (R.bind (R.bind (rdT (getSl ρ53 7) S54) fun d55 S56 =>
 (R.bind (rdT (getSl ρ53 5) S56) fun d57 S58 =>
 (R.opt ((cmpD .NotIn (view S58 d55) (view S58 d57)).map D.bl) S58))) fun d59 S60 =>
 (blD d59 S60)) ρ53 fun t61 S62 =>
 (if t61 then (O.seq (appN (getSl (fz ρ53 7) 5) S62 (fun ds => (R.run (rdE (getSl (fz ρ53 7) 7) S62) (fz ρ53 7) fun d63 S64 =>
 (if ds.length < LINE then .nx ((fz ρ53 7).set 5 (.own (ds ++ [d63]))) S64 else .bad))) fun iR => (R.run (rdE (getSl (fz ρ53 7) 7) S62) (fz ρ53 7) fun d65 S66 =>
 (appR iR d65 (fz ρ53 7) S66))) fun ρ67 S68 =>
(.nx ρ67 S68)) else (.nx ρ53 S62))) fun ρ69 S70 =>
(.nx ρ69 S70)))
def s__law_schema_l2 (C : Call) (d : D) (ρ : Ev) (S : Sto) : O := asg1 (asgG 50 (.nm 6) d ρ) S (s__law_schema_l2_b C)
def s__law_schema_l1_b (C : Call) (ρ : Ev) (S : Sto) : O :=
 (O.seq (if decide (5 < ρ.length) then (.nx (ρ.set 5 (.own [])) S) else .bad) fun ρ17 S18 =>
(O.seq (R.run (R.bind (R.bind (R.bind (R.bind (rdE (getSl (fz ρ17 0) 0) S18) fun d71 S72 =>
 (.ok [d71, (.lst [(.int 0), (.int 1), (.int 1), (.int 2), (.int 2), (.int 3)])] S72)) fun ds73 S74 =>
 (C "_law_pick" ds73 S74)) fun d75 S76 =>
 (.ok [d75] S76)) fun ds77 S78 =>
 (rangeA1 ds77 S78)) (fz ρ17 0) fun ds79 S80 =>
 (forL (s__law_schema_l2 C) ds79 (fz ρ17 0) S80)) fun ρ81 S82 =>
(O.seq (appN (getSl (fz ρ81 0) 3) S82 (fun ds => (R.run (R.bind (R.bind (R.bind (R.bind (R.bind (rdE (getSl (fz ρ81 0) 0) S82) fun d83 S84 =>
 (.ok [d83, (.int 2)] S84)) fun ds85 S86 =>
 (C "_law_take" ds85 S86)) fun d87 S88 =>
 (R.opt ((cmpD .Eq (view S88 d87) (.int 0)).map D.bl) S88)) fun d89 S90 =>
 (R.bind (R.bind (R.bind (R.bind (R.bind (R.bind (rdT (getSl (fz ρ81 0) 5) S90) fun d91 S92 =>
 (.ok [d91] S92)) fun ds93 S94 =>
 (R.opt (callD "sorted" (ds93.map (view S94))) S94)) fun d95 S96 =>
 (.ok [d95] S96)) fun ds97 S98 =>
 (R.opt (callD "tuple" (ds97.map (view S98))) S98)) fun d99 S100 =>
 (.ok [d99] S100)) fun ds101 S102 =>
 (.ok (d89 :: ds101) S102))) fun ds103 S104 =>
 (if (ds103).length ≤ LINE then .ok (.tup ds103) S104 else .bad)) (fz ρ81 0) fun d105 S106 =>
 (if ds.length < LINE then .nx ((fz ρ81 0).set 3 (.own (ds ++ [d105]))) S106 else .bad))) fun iR => (R.run (R.bind (R.bind (R.bind (R.bind (R.bind (rdE (getSl (fz ρ81 0) 0) S82) fun d107 S108 =>
 (.ok [d107, (.int 2)] S108)) fun ds109 S110 =>
 (C "_law_take" ds109 S110)) fun d111 S112 =>
 (R.opt ((cmpD .Eq (view S112 d111) (.int 0)).map D.bl) S112)) fun d113 S114 =>
 (R.bind (R.bind (R.bind (R.bind (R.bind (R.bind (rdT (getSl (fz ρ81 0) 5) S114) fun d115 S116 =>
 (.ok [d115] S116)) fun ds117 S118 =>
 (R.opt (callD "sorted" (ds117.map (view S118))) S118)) fun d119 S120 =>
 (.ok [d119] S120)) fun ds121 S122 =>
 (R.opt (callD "tuple" (ds121.map (view S122))) S122)) fun d123 S124 =>
 (.ok [d123] S124)) fun ds125 S126 =>
 (.ok (d113 :: ds125) S126))) fun ds127 S128 =>
 (if (ds127).length ≤ LINE then .ok (.tup ds127) S128 else .bad)) (fz ρ81 0) fun d129 S130 =>
 (appR iR d129 (fz ρ81 0) S130))) fun ρ131 S132 =>
(.nx ρ131 S132))))
def s__law_schema_l1 (C : Call) (d : D) (ρ : Ev) (S : Sto) : O := asg1 (asgG 50 (.nm 4) d ρ) S (s__law_schema_l1_b C)
def s__law_schema_b (C : Call) (ρ : Ev) (S : Sto) : O :=
(O.seq (if decide (2 < (fz (fz ρ 0) 1).length) then (R.run (R.bind (R.bind (R.bind (rdE (getSl (fz (fz ρ 0) 1) 0) S) fun d1 S2 =>
 (R.bind (R.bind (rdE (getSl (fz (fz ρ 0) 1) 1) S2) fun d3 S4 =>
 (.ok [d3] S4)) fun ds5 S6 =>
 (.ok (d1 :: ds5) S6))) fun ds7 S8 =>
 (C "_law_take" ds7 S8)) fun d9 S10 =>
 (R.opt (binD .Add (.int 1) (view S10 d9)) S10)) (fz (fz ρ 0) 1) fun d11 S12 =>
 (.nx ((fz (fz ρ 0) 1).set 2 (.val d11)) S12)) else .bad) fun ρ13 S14 =>
(O.seq (if decide (3 < ρ13.length) then (.nx (ρ13.set 3 (.own [])) S14) else .bad) fun ρ15 S16 =>
(O.seq (R.run (R.bind (R.bind (rdE (getSl ρ15 2) S16) fun d133 S134 =>
 (.ok [d133] S134)) fun ds135 S136 =>
 (rangeA1 ds135 S136)) ρ15 fun ds137 S138 =>
 (forL (s__law_schema_l1 C) ds137 ρ15 S138)) fun ρ139 S140 =>
(O.seq (R.run (R.bind (R.bind (rdT (getSl ρ139 3) S140) fun d141 S142 =>
 (.ok [d141] S142)) fun ds143 S144 =>
 (R.opt (callD "tuple" (ds143.map (view S144))) S144)) ρ139 fun d145 S146 =>
 (.ret d145 S146)) fun ρ147 S148 =>
(.nx ρ147 S148)))))
def s__law_schema (C : Call) (a0 a1 : D) (S : Sto) : R D := O.fin (s__law_schema_b C [.val a0, .val a1, .un, .un, .un, .un, .un, .un] S)
def s__law_wide_c1_t (C : Call) (ρ : Ev) (S : Sto) : R Bool :=
 .ok true S
def s__law_wide_c1_e (C : Call) (ρ : Ev) (S : Sto) : R D :=
 (R.bind (R.bind (R.bind (R.bind (R.bind (R.bind (rdT (getSl ρ 3) S) fun d13 S14 =>
 (R.bind (rdT (getSl ρ 5) S14) fun d15 S16 =>
 (R.opt (binD .Add (view S16 d13) (view S16 d15)) S16))) fun d17 S18 =>
 (.ok [d17] S18)) fun ds19 S20 =>
 (R.opt (callD "int" (ds19.map (view S20))) S20)) fun d21 S22 =>
 (R.opt (binD .Mod (view S22 d21) (.int 5)) S22)) fun d23 S24 =>
 (R.bind (R.bind (R.bind (R.bind (rdE (getSl ρ 0) S24) fun d25 S26 =>
 (R.bind (R.bind (rdE (getSl ρ 1) S26) fun d27 S28 =>
 (.ok [d27] S28)) fun ds29 S30 =>
 (.ok (d25 :: ds29) S30))) fun ds31 S32 =>
 (C "_law_take" ds31 S32)) fun d33 S34 =>
 (R.bind (R.bind (R.bind (R.bind (rdE (getSl ρ 0) S34) fun d35 S36 =>
 (R.bind (R.bind (rdE (getSl ρ 1) S36) fun d37 S38 =>
 (.ok [d37] S38)) fun ds39 S40 =>
 (.ok (d35 :: ds39) S40))) fun ds41 S42 =>
 (C "_law_take" ds41 S42)) fun d43 S44 =>
 (.ok [d43] S44)) fun ds45 S46 =>
 (.ok (d33 :: ds45) S46))) fun ds47 S48 =>
 (.ok (d23 :: ds47) S48))) fun ds49 S50 =>
 (if (ds49).length ≤ LINE then .ok (.tup ds49) S50 else .bad))
def s__law_wide_c1 (C : Call) (ρ : Ev) (d : D) (S : Sto) : R (Option D) := lcStep (s__law_wide_c1_t C) (s__law_wide_c1_e C) S (asgG 50 (.nm 5) d (wipeE ρ [5]))
def s__law_wide_l1_b (C : Call) (ρ : Ev) (S : Sto) : O :=
 (O.seq (if decide (4 < (fz (fz (fz (fz (fz ρ 0) 0) 1) 0) 1).length) then (R.run (R.bind (R.bind (R.bind (R.bind (R.bind (rdE (getSl (fz (fz (fz (fz (fz ρ 0) 0) 1) 0) 1) 0) S) fun d51 S52 =>
 (.ok [d51, (.int 3)] S52)) fun ds53 S54 =>
 (C "_law_take" ds53 S54)) fun d55 S56 =>
 (.ok [d55] S56)) fun ds57 S58 =>
 (rangeA1 ds57 S58)) fun ds59 S60 =>
 (if (ds59).length ≤ LINE then R.bind (compL (s__law_wide_c1 C (fz (fz (fz (fz (fz ρ 0) 0) 1) 0) 1)) ds59 [] S60) fun ys S5 => .ok (.lst ys) S5 else .bad)) (fz (fz (fz (fz (fz ρ 0) 0) 1) 0) 1) fun d61 S62 =>
 (.nx ((fz (fz (fz (fz (fz ρ 0) 0) 1) 0) 1).set 4 (.val d61)) S62)) else .bad) fun ρ63 S64 =>
(O.seq (appN (getSl (fz ρ63 0) 2) S64 (fun ds => (R.run (R.bind (R.bind (R.bind (R.bind (R.bind (rdE (getSl (fz ρ63 0) 0) S64) fun d65 S66 =>
 (.ok [d65, (.int 2)] S66)) fun ds67 S68 =>
 (C "_law_take" ds67 S68)) fun d69 S70 =>
 (R.opt ((cmpD .Eq (view S70 d69) (.int 0)).map D.bl) S70)) fun d71 S72 =>
 (R.bind (R.bind (R.bind (R.bind (R.bind (rdT (getSl (fz ρ63 0) 4) S72) fun d73 S74 =>
 (R.opt (setSortD (view S74 d73)) S74)) fun d75 S76 =>
 (.ok [d75] S76)) fun ds77 S78 =>
 (R.opt (callD "tuple" (ds77.map (view S78))) S78)) fun d79 S80 =>
 (.ok [d79] S80)) fun ds81 S82 =>
 (.ok (d71 :: ds81) S82))) fun ds83 S84 =>
 (if (ds83).length ≤ LINE then .ok (.tup ds83) S84 else .bad)) (fz ρ63 0) fun d85 S86 =>
 (if ds.length < LINE then .nx ((fz ρ63 0).set 2 (.own (ds ++ [d85]))) S86 else .bad))) fun iR => (R.run (R.bind (R.bind (R.bind (R.bind (R.bind (rdE (getSl (fz ρ63 0) 0) S64) fun d87 S88 =>
 (.ok [d87, (.int 2)] S88)) fun ds89 S90 =>
 (C "_law_take" ds89 S90)) fun d91 S92 =>
 (R.opt ((cmpD .Eq (view S92 d91) (.int 0)).map D.bl) S92)) fun d93 S94 =>
 (R.bind (R.bind (R.bind (R.bind (R.bind (rdT (getSl (fz ρ63 0) 4) S94) fun d95 S96 =>
 (R.opt (setSortD (view S96 d95)) S96)) fun d97 S98 =>
 (.ok [d97] S98)) fun ds99 S100 =>
 (R.opt (callD "tuple" (ds99.map (view S100))) S100)) fun d101 S102 =>
 (.ok [d101] S102)) fun ds103 S104 =>
 (.ok (d93 :: ds103) S104))) fun ds105 S106 =>
 (if (ds105).length ≤ LINE then .ok (.tup ds105) S106 else .bad)) (fz ρ63 0) fun d107 S108 =>
 (appR iR d107 (fz ρ63 0) S108))) fun ρ109 S110 =>
(.nx ρ109 S110)))
def s__law_wide_l1 (C : Call) (d : D) (ρ : Ev) (S : Sto) : O := asg1 (asgG 50 (.nm 3) d ρ) S (s__law_wide_l1_b C)
def s__law_wide_b (C : Call) (ρ : Ev) (S : Sto) : O :=
(O.seq (if decide (1 < (fz ρ 0).length) then (R.run (R.bind (R.bind (R.bind (rdE (getSl (fz ρ 0) 0) S) fun d1 S2 =>
 (.ok [d1, (.int 60)] S2)) fun ds3 S4 =>
 (C "_law_take" ds3 S4)) fun d5 S6 =>
 (R.opt (binD .Add (.int 1) (view S6 d5)) S6)) (fz ρ 0) fun d7 S8 =>
 (.nx ((fz ρ 0).set 1 (.val d7)) S8)) else .bad) fun ρ9 S10 =>
(O.seq (if decide (2 < ρ9.length) then (.nx (ρ9.set 2 (.own [])) S10) else .bad) fun ρ11 S12 =>
(O.seq (R.run (R.bind (R.bind (rdE (getSl ρ11 1) S12) fun d111 S112 =>
 (.ok [d111] S112)) fun ds113 S114 =>
 (rangeA1 ds113 S114)) ρ11 fun ds115 S116 =>
 (forL (s__law_wide_l1 C) ds115 ρ11 S116)) fun ρ117 S118 =>
(O.seq (R.run (R.bind (R.bind (rdT (getSl ρ117 2) S118) fun d119 S120 =>
 (.ok [d119] S120)) fun ds121 S122 =>
 (R.opt (callD "tuple" (ds121.map (view S122))) S122)) ρ117 fun d123 S124 =>
 (.ret d123 S124)) fun ρ125 S126 =>
(.nx ρ125 S126)))))
def s__law_wide (C : Call) (a0 : D) (S : Sto) : R D := O.fin (s__law_wide_b C [.val a0, .un, .un, .un, .un, .un] S)
def s__law_text_c1_t (C : Call) (ρ : Ev) (S : Sto) : R Bool :=
 .ok true S
def s__law_text_c1_e (C : Call) (ρ : Ev) (S : Sto) : R D :=
 (R.bind (R.bind (R.bind (R.bind (R.bind (R.bind (R.bind (rdT (getSl ρ 4) S) fun d30 S31 =>
 (.ok [d30] S31)) fun ds32 S33 =>
 (R.opt (callD "str" (ds32.map (view S33))) S33)) fun d34 S35 =>
 (R.opt (binD .Add (.str " ") (view S35 d34)) S35)) fun d36 S37 =>
 (R.opt (binD .Add (view S37 d36) (.str ".")) S37)) fun d38 S39 =>
 (R.bind (R.bind (R.bind (rdT (getSl ρ 5) S39) fun d40 S41 =>
 (.ok [d40] S41)) fun ds42 S43 =>
 (R.opt (callD "str" (ds42.map (view S43))) S43)) fun d44 S45 =>
 (R.opt (binD .Add (view S45 d38) (view S45 d44)) S45))) fun d46 S47 =>
 (R.opt (binD .Add (view S47 d46) (.str ".")) S47)) fun d48 S49 =>
 (R.bind (R.bind (R.bind (rdT (getSl ρ 6) S49) fun d50 S51 =>
 (.ok [d50] S51)) fun ds52 S53 =>
 (R.opt (callD "str" (ds52.map (view S53))) S53)) fun d54 S55 =>
 (R.opt (binD .Add (view S55 d48) (view S55 d54)) S55)))
def s__law_text_c1 (C : Call) (ρ : Ev) (d : D) (S : Sto) : R (Option D) := lcStep (s__law_text_c1_t C) (s__law_text_c1_e C) S (asgG 50 (.tp [(.nm 4), (.nm 5), (.nm 6)]) d (wipeE ρ [4, 5, 6]))
def s__law_text_c2_t (C : Call) (ρ : Ev) (S : Sto) : R Bool :=
 .ok true S
def s__law_text_c2_e (C : Call) (ρ : Ev) (S : Sto) : R D :=
 (R.bind (R.bind (R.bind (R.bind (R.bind (R.bind (R.bind (rdT (getSl ρ 4) S) fun d75 S76 =>
 (.ok [d75] S76)) fun ds77 S78 =>
 (R.opt (callD "str" (ds77.map (view S78))) S78)) fun d79 S80 =>
 (R.opt (binD .Add (.str " ") (view S80 d79)) S80)) fun d81 S82 =>
 (R.opt (binD .Add (view S82 d81) (.str ".")) S82)) fun d83 S84 =>
 (R.bind (R.bind (R.bind (rdT (getSl ρ 5) S84) fun d85 S86 =>
 (.ok [d85] S86)) fun ds87 S88 =>
 (R.opt (callD "str" (ds87.map (view S88))) S88)) fun d89 S90 =>
 (R.opt (binD .Add (view S90 d83) (view S90 d89)) S90))) fun d91 S92 =>
 (R.opt (binD .Add (view S92 d91) (.str ".")) S92)) fun d93 S94 =>
 (R.bind (R.bind (R.bind (rdT (getSl ρ 6) S94) fun d95 S96 =>
 (.ok [d95] S96)) fun ds97 S98 =>
 (R.opt (callD "str" (ds97.map (view S98))) S98)) fun d99 S100 =>
 (R.opt (binD .Add (view S100 d93) (view S100 d99)) S100)))
def s__law_text_c2 (C : Call) (ρ : Ev) (d : D) (S : Sto) : R (Option D) := lcStep (s__law_text_c2_t C) (s__law_text_c2_e C) S (asgG 50 (.tp [(.nm 4), (.nm 5), (.nm 6)]) d (wipeE ρ [4, 5, 6]))
def s__law_text_l1_b (C : Call) (ρ : Ev) (S : Sto) : O :=
 (O.seq (if decide (3 < (fz ρ 2).length) then (R.run (R.bind (R.bind (R.bind (R.bind (rdT (getSl (fz ρ 2) 2) S) fun d3 S4 =>
 (.ok [d3] S4)) fun ds5 S6 =>
 (R.opt (callD "str" (ds5.map (view S6))) S6)) fun d7 S8 =>
 (R.opt (binD .Add (view S8 d7) (.str ":")) S8)) fun d9 S10 =>
 (R.bind (R.bind (R.bind (R.bind (R.bind (rdT (getSl (fz ρ 2) 0) S10) fun d11 S12 =>
 (R.bind (rdE (getSl (fz ρ 2) 2) S12) fun d13 S14 =>
 (R.opt (itemD (view S14 d11) d13) S14))) fun d15 S16 =>
 (R.opt (itemD (view S16 d15) (.int 0)) S16)) fun d17 S18 =>
 (tstD d17 S18)) fun t19 S20 =>
 (if t19 then (.ok (.str " end") S20) else (.ok (.str "") S20))) fun d21 S22 =>
 (R.opt (binD .Add (view S22 d9) (view S22 d21)) S22))) (fz ρ 2) fun d23 S24 =>
 (.nx ((fz ρ 2).set 3 (.val d23)) S24)) else .bad) fun ρ25 S26 =>
(O.seq (appN (getSl (fz ρ25 2) 1) S26 (fun ds => (R.run (R.bind (rdT (getSl (fz ρ25 2) 3) S26) fun d27 S28 =>
 (R.bind (strM (.str "") fun z29 => (R.bind (R.bind (R.bind (R.bind (R.bind (rdT (getSl (fz ρ25 2) 0) S28) fun d56 S57 =>
 (R.bind (rdE (getSl (fz ρ25 2) 2) S57) fun d58 S59 =>
 (R.opt (itemD (view S59 d56) d58) S59))) fun d60 S61 =>
 (R.opt (itemD (view S61 d60) (.int 1)) S61)) fun d62 S63 =>
 (R.opt (itemsD d62) S63)) fun ds64 S65 =>
 (if (ds64).length ≤ LINE then R.bind (compL (s__law_text_c1 C (fz ρ25 2)) ds64 [] S65) fun ys S5 => .ok (.lst ys) S5 else .bad)) fun d66 S67 =>
 (R.opt (joinD z29 d66) S67))) fun d68 S69 =>
 (R.opt (binD .Add (view S69 d27) (view S69 d68)) S69))) (fz ρ25 2) fun d70 S71 =>
 (if ds.length < LINE then .nx ((fz ρ25 2).set 1 (.own (ds ++ [d70]))) S71 else .bad))) fun iR => (R.run (R.bind (rdT (getSl (fz ρ25 2) 3) S26) fun d72 S73 =>
 (R.bind (strM (.str "") fun z74 => (R.bind (R.bind (R.bind (R.bind (R.bind (rdT (getSl (fz ρ25 2) 0) S73) fun d101 S102 =>
 (R.bind (rdE (getSl (fz ρ25 2) 2) S102) fun d103 S104 =>
 (R.opt (itemD (view S104 d101) d103) S104))) fun d105 S106 =>
 (R.opt (itemD (view S106 d105) (.int 1)) S106)) fun d107 S108 =>
 (R.opt (itemsD d107) S108)) fun ds109 S110 =>
 (if (ds109).length ≤ LINE then R.bind (compL (s__law_text_c2 C (fz ρ25 2)) ds109 [] S110) fun ys S5 => .ok (.lst ys) S5 else .bad)) fun d111 S112 =>
 (R.opt (joinD z74 d111) S112))) fun d113 S114 =>
 (R.opt (binD .Add (view S114 d72) (view S114 d113)) S114))) (fz ρ25 2) fun d115 S116 =>
 (appR iR d115 (fz ρ25 2) S116))) fun ρ117 S118 =>
(.nx ρ117 S118)))
def s__law_text_l1 (C : Call) (d : D) (ρ : Ev) (S : Sto) : O := asg1 (asgG 50 (.nm 2) d ρ) S (s__law_text_l1_b C)
def s__law_text_b (C : Call) (ρ : Ev) (S : Sto) : O :=
(O.seq (if decide (1 < ρ.length) then (.nx (ρ.set 1 (.own [])) S) else .bad) fun ρ1 S2 =>
(O.seq (R.run (R.bind (R.bind (R.bind (R.bind (rdT (getSl ρ1 0) S2) fun d119 S120 =>
 (.ok [d119] S120)) fun ds121 S122 =>
 (R.opt (callD "len" (ds121.map (view S122))) S122)) fun d123 S124 =>
 (.ok [d123] S124)) fun ds125 S126 =>
 (rangeA1 ds125 S126)) ρ1 fun ds127 S128 =>
 (forL (s__law_text_l1 C) ds127 ρ1 S128)) fun ρ129 S130 =>
(O.seq (R.run (strM (.str "
") fun z131 => (R.bind (rdE (getSl (fz ρ129 1) 1) S130) fun d132 S133 =>
 (R.opt (joinD z131 d132) S133))) (fz ρ129 1) fun d134 S135 =>
 (.ret d134 S135)) fun ρ136 S137 =>
(.nx ρ136 S137))))
def s__law_text (C : Call) (a0 : D) (S : Sto) : R D := O.fin (s__law_text_b C [.val a0, .un, .un, .un, .un, .un, .un] S)
def s__law_number_l1_b (C : Call) (ρ : Ev) (S : Sto) : O :=
 (O.seq (R.run (R.bind (R.bind (R.bind (R.bind (rdT (getSl ρ 2) S) fun d1 S2 =>
 (.ok [d1] S2)) fun ds3 S4 =>
 (R.opt (callD "str" (ds3.map (view S4))) S4)) fun d5 S6 =>
 (R.bind (rdT (getSl ρ 0) S6) fun d7 S8 =>
 (R.opt ((cmpD .Eq (view S8 d5) (view S8 d7)).map D.bl) S8))) fun d9 S10 =>
 (blD d9 S10)) ρ fun t11 S12 =>
 (if t11 then (O.seq (R.run (rdE (getSl (fz ρ 2) 2) S12) (fz ρ 2) fun d13 S14 =>
 (.ret d13 S14)) fun ρ15 S16 =>
(.nx ρ15 S16)) else (.nx ρ S12))) fun ρ17 S18 =>
(.nx ρ17 S18))
def s__law_number_l1 (C : Call) (d : D) (ρ : Ev) (S : Sto) : O := asg1 (asgG 50 (.nm 2) d ρ) S (s__law_number_l1_b C)
def s__law_number_b (C : Call) (ρ : Ev) (S : Sto) : O :=
(O.seq (R.run (R.bind (R.bind (rdE (getSl ρ 1) S) fun d19 S20 =>
 (.ok [d19] S20)) fun ds21 S22 =>
 (rangeA1 ds21 S22)) ρ fun ds23 S24 =>
 (forL (s__law_number_l1 C) ds23 ρ S24)) fun ρ25 S26 =>
(O.seq (.ret (.int (-1)) S26) fun ρ27 S28 =>
(.nx ρ27 S28)))
def s__law_number (C : Call) (a0 a1 : D) (S : Sto) : R D := O.fin (s__law_number_b C [.val a0, .val a1, .un] S)
def s__law_rule_b (C : Call) (ρ : Ev) (S : Sto) : O :=
(O.seq (if decide (2 < ρ.length) then (R.run (R.bind (rdT (getSl ρ 0) S) fun d2 S3 =>
 (strM d2 fun z1 => (R.opt (splitD z1 (.str ".")) S3))) ρ fun d4 S5 =>
 (.nx (ρ.set 2 (.val d4)) S5)) else .bad) fun ρ6 S7 =>
(O.seq (R.run (R.bind (R.bind (R.bind (R.bind (rdT (getSl ρ6 2) S7) fun d8 S9 =>
 (.ok [d8] S9)) fun ds10 S11 =>
 (R.opt (callD "len" (ds10.map (view S11))) S11)) fun d12 S13 =>
 (R.opt ((cmpD .NotEq (view S13 d12) (.int 3)).map D.bl) S13)) fun d14 S15 =>
 (blD d14 S15)) ρ6 fun t16 S17 =>
 (if t16 then (O.seq (.ret .non S17) fun ρ18 S19 =>
(.nx ρ18 S19)) else (.nx ρ6 S17))) fun ρ20 S21 =>
(O.seq (if decide (3 < (fz (fz ρ20 1) 1).length) then (R.run (R.bind (R.bind (R.bind (R.bind (R.bind (rdT (getSl (fz (fz ρ20 1) 1) 2) S21) fun d22 S23 =>
 (R.opt (itemD (view S23 d22) (.int 0)) S23)) fun d24 S25 =>
 (.ok [d24, (.int 5)] S25)) fun ds26 S27 =>
 (C "_law_number" ds26 S27)) fun d28 S29 =>
 (R.bind (R.bind (R.bind (R.bind (R.bind (rdT (getSl (fz (fz ρ20 1) 1) 2) S29) fun d30 S31 =>
 (R.opt (itemD (view S31 d30) (.int 1)) S31)) fun d32 S33 =>
 (R.bind (R.bind (rdE (getSl (fz (fz ρ20 1) 1) 1) S33) fun d34 S35 =>
 (.ok [d34] S35)) fun ds36 S37 =>
 (.ok (d32 :: ds36) S37))) fun ds38 S39 =>
 (C "_law_number" ds38 S39)) fun d40 S41 =>
 (R.bind (R.bind (R.bind (R.bind (R.bind (rdT (getSl (fz (fz ρ20 1) 1) 2) S41) fun d42 S43 =>
 (R.opt (itemD (view S43 d42) (.int 2)) S43)) fun d44 S45 =>
 (R.bind (R.bind (rdE (getSl (fz (fz ρ20 1) 1) 1) S45) fun d46 S47 =>
 (.ok [d46] S47)) fun ds48 S49 =>
 (.ok (d44 :: ds48) S49))) fun ds50 S51 =>
 (C "_law_number" ds50 S51)) fun d52 S53 =>
 (.ok [d52] S53)) fun ds54 S55 =>
 (.ok (d40 :: ds54) S55))) fun ds56 S57 =>
 (.ok (d28 :: ds56) S57))) fun ds58 S59 =>
 (if (ds58).length ≤ LINE then .ok (.tup ds58) S59 else .bad)) (fz (fz ρ20 1) 1) fun d60 S61 =>
 (.nx ((fz (fz ρ20 1) 1).set 3 (.val d60)) S61)) else .bad) fun ρ62 S63 =>
(O.seq (R.run (R.bind (R.bind (R.bind (rdT (getSl (fz ρ62 3) 3) S63) fun d64 S65 =>
 (R.opt ((cmpD .In (.int (-1)) (view S65 d64)).map D.bl) S65)) fun d66 S67 =>
 (blD d66 S67)) fun t68 S69 =>
 (if t68 then (.ok .non S69) else (rdE (getSl (fz ρ62 3) 3) S69))) (fz ρ62 3) fun d70 S71 =>
 (.ret d70 S71)) fun ρ72 S73 =>
(.nx ρ72 S73)))))
def s__law_rule (C : Call) (a0 a1 : D) (S : Sto) : R D := O.fin (s__law_rule_b C [.val a0, .val a1, .un, .un] S)
def s__law_read_c1_t (C : Call) (ρ : Ev) (S : Sto) : R Bool :=
 .ok true S
def s__law_read_c1_e (C : Call) (ρ : Ev) (S : Sto) : R D :=
 (R.bind (R.bind (rdE (getSl ρ 8) S) fun d31 S32 =>
 (R.bind (R.bind (R.bind (R.bind (rdT (getSl ρ 1) S32) fun d33 S34 =>
 (.ok [d33] S34)) fun ds35 S36 =>
 (R.opt (callD "len" (ds35.map (view S36))) S36)) fun d37 S38 =>
 (.ok [d37] S38)) fun ds39 S40 =>
 (.ok (d31 :: ds39) S40))) fun ds41 S42 =>
 (C "_law_rule" ds41 S42))
def s__law_read_c1 (C : Call) (ρ : Ev) (d : D) (S : Sto) : R (Option D) := lcStep (s__law_read_c1_t C) (s__law_read_c1_e C) S (asgG 50 (.nm 8) d (wipeE ρ [8]))
def s__law_read_c2_t (C : Call) (ρ : Ev) (S : Sto) : R Bool :=
 (R.bind (R.bind (R.bind (rdT (getSl ρ 7) S) fun d67 S68 =>
 (R.bind (R.bind (rdT (getSl ρ 9) S68) fun d69 S70 =>
 (R.opt (binD .Sub (view S70 d69) (.int 1)) S70)) fun d71 S72 =>
 (R.opt (itemD (view S72 d67) d71) S72))) fun d73 S74 =>
 (R.bind (R.bind (rdT (getSl ρ 7) S74) fun d75 S76 =>
 (R.bind (rdE (getSl ρ 9) S76) fun d77 S78 =>
 (R.opt (itemD (view S78 d75) d77) S78))) fun d79 S80 =>
 (R.opt ((cmpD .GtE (view S80 d73) (view S80 d79)).map D.bl) S80))) fun d81 S82 =>
 (blD d81 S82))
def s__law_read_c2_e (C : Call) (ρ : Ev) (S : Sto) : R D :=
 (rdE (getSl ρ 9) S)
def s__law_read_c2 (C : Call) (ρ : Ev) (d : D) (S : Sto) : R (Option D) := lcStep (s__law_read_c2_t C) (s__law_read_c2_e C) S (asgG 50 (.nm 9) d (wipeE ρ [9]))
def s__law_read_l1_b (C : Call) (ρ : Ev) (S : Sto) : O :=
 (O.seq (if decide (5 < ρ.length) then (R.run (R.bind (R.bind (rdT (getSl ρ 3) S) fun d11 S12 =>
 (strM d11 fun z10 => (R.opt (splitD z10 (.str " ")) S12))) fun d13 S14 =>
 (R.bind (ixD (.int 1) S14) fun o15 S16 =>
 (R.opt (sliceD (view S16 d13) o15 none) S16))) ρ fun d17 S18 =>
 (.nx (ρ.set 5 (.val d17)) S18)) else .bad) fun ρ19 S20 =>
(O.seq (if decide (6 < ρ19.length) then (R.run (R.bind (R.bind (rdT (getSl ρ19 5) S20) fun d21 S22 =>
 (R.bind (ixD (.int 1) S22) fun o23 S24 =>
 (R.opt (sliceD (view S24 d21) none o23) S24))) fun d25 S26 =>
 (R.opt ((cmpD .Eq (view S26 d25) (view S26 (.lst [(.str "end")]))).map D.bl) S26)) ρ19 fun d27 S28 =>
 (.nx (ρ19.set 6 (.val d27)) S28)) else .bad) fun ρ29 S30 =>
(O.seq (if decide (7 < (fz ρ29 8).length) then (R.run (R.bind (R.bind (R.bind (rdT (getSl (fz ρ29 8) 5) S30) fun d43 S44 =>
 (R.bind (R.bind (R.bind (R.bind (rdT (getSl (fz ρ29 8) 6) S44) fun d45 S46 =>
 (.ok [d45] S46)) fun ds47 S48 =>
 (R.opt (callD "int" (ds47.map (view S48))) S48)) fun d49 S50 =>
 (ixD d49 S50)) fun o51 S52 =>
 (R.opt (sliceD (view S52 d43) o51 none) S52))) fun d53 S54 =>
 (R.opt (itemsD d53) S54)) fun ds55 S56 =>
 (if (ds55).length ≤ LINE then R.bind (compL (s__law_read_c1 C (fz ρ29 8)) ds55 [] S56) fun ys S5 => .ok (.lst ys) S5 else .bad)) (fz ρ29 8) fun d57 S58 =>
 (.nx ((fz ρ29 8).set 7 (.val d57)) S58)) else .bad) fun ρ59 S60 =>
(O.seq (R.run (R.bind (R.bind (R.bind (rdT (getSl (fz (fz ρ59 9) 9) 7) S60) fun d61 S62 =>
 (R.opt ((cmpD .In .non (view S62 d61)).map D.bl) S62)) fun d63 S64 =>
 (blD d63 S64)) fun t65 S66 =>
 (if t65 then .ok true S66 else (R.bind (R.bind (R.bind (R.bind (R.bind (R.bind (R.bind (R.bind (rdT (getSl (fz (fz ρ59 9) 9) 7) S66) fun d83 S84 =>
 (.ok [d83] S84)) fun ds85 S86 =>
 (R.opt (callD "len" (ds85.map (view S86))) S86)) fun d87 S88 =>
 (.ok [d87] S88)) fun ds89 S90 =>
 (.ok ((.int 1) :: ds89) S90)) fun ds91 S92 =>
 (rangeA2 ds91 S92)) fun ds93 S94 =>
 (if (ds93).length ≤ LINE then R.bind (compL (s__law_read_c2 C (fz (fz ρ59 9) 9)) ds93 [] S94) fun ys S5 => .ok (.lst ys) S5 else .bad)) fun d95 S96 =>
 (R.opt ((cmpD .NotEq (view S96 d95) (view S96 (.lst []))).map D.bl) S96)) fun d97 S98 =>
 (blD d97 S98)))) (fz (fz ρ59 9) 9) fun t99 S100 =>
 (if t99 then (O.seq (.ret .non S100) fun ρ101 S102 =>
(.nx ρ101 S102)) else (.nx (fz (fz ρ59 9) 9) S100))) fun ρ103 S104 =>
(O.seq (appN (getSl (fz ρ103 6) 2) S104 (fun ds => (R.run (R.bind (R.bind (rdE (getSl (fz ρ103 6) 6) S104) fun d105 S106 =>
 (R.bind (R.bind (R.bind (R.bind (rdT (getSl (fz ρ103 6) 7) S106) fun d107 S108 =>
 (.ok [d107] S108)) fun ds109 S110 =>
 (R.opt (callD "tuple" (ds109.map (view S110))) S110)) fun d111 S112 =>
 (.ok [d111] S112)) fun ds113 S114 =>
 (.ok (d105 :: ds113) S114))) fun ds115 S116 =>
 (if (ds115).length ≤ LINE then .ok (.tup ds115) S116 else .bad)) (fz ρ103 6) fun d117 S118 =>
 (if ds.length < LINE then .nx ((fz ρ103 6).set 2 (.own (ds ++ [d117]))) S118 else .bad))) fun iR => (R.run (R.bind (R.bind (rdE (getSl (fz ρ103 6) 6) S104) fun d119 S120 =>
 (R.bind (R.bind (R.bind (R.bind (rdT (getSl (fz ρ103 6) 7) S120) fun d121 S122 =>
 (.ok [d121] S122)) fun ds123 S124 =>
 (R.opt (callD "tuple" (ds123.map (view S124))) S124)) fun d125 S126 =>
 (.ok [d125] S126)) fun ds127 S128 =>
 (.ok (d119 :: ds127) S128))) fun ds129 S130 =>
 (if (ds129).length ≤ LINE then .ok (.tup ds129) S130 else .bad)) (fz ρ103 6) fun d131 S132 =>
 (appR iR d131 (fz ρ103 6) S132))) fun ρ133 S134 =>
(.nx ρ133 S134))))))
def s__law_read_l1 (C : Call) (d : D) (ρ : Ev) (S : Sto) : O := asg1 (asgG 50 (.nm 3) d ρ) S (s__law_read_l1_b C)
def s__law_read_b (C : Call) (ρ : Ev) (S : Sto) : O :=
(O.seq (if decide (1 < ρ.length) then (R.run (R.bind (rdT (getSl ρ 0) S) fun d2 S3 =>
 (strM d2 fun z1 => (R.opt (splitD z1 (.str "
")) S3))) ρ fun d4 S5 =>
 (.nx (ρ.set 1 (.val d4)) S5)) else .bad) fun ρ6 S7 =>
(O.seq (if decide (2 < ρ6.length) then (.nx (ρ6.set 2 (.own [])) S7) else .bad) fun ρ8 S9 =>
(O.seq (R.run (R.bind (rdE (getSl (fz ρ8 1) 1) S9) fun d135 S136 =>
 (R.opt (itemsD d135) S136)) (fz ρ8 1) fun ds137 S138 =>
 (forL (s__law_read_l1 C) ds137 (fz ρ8 1) S138)) fun ρ139 S140 =>
(O.seq (if decide (4 < ρ139.length) then (R.run (R.bind (R.bind (rdT (getSl ρ139 2) S140) fun d141 S142 =>
 (.ok [d141] S142)) fun ds143 S144 =>
 (R.opt (callD "tuple" (ds143.map (view S144))) S144)) ρ139 fun d145 S146 =>
 (.nx (ρ139.set 4 (.val d145)) S146)) else .bad) fun ρ147 S148 =>
(O.seq (R.run (R.bind (R.bind (R.bind (R.bind (R.bind (R.bind (rdT (getSl (fz (fz ρ147 4) 4) 4) S148) fun d149 S150 =>
 (.ok [d149] S150)) fun ds151 S152 =>
 (R.opt (callD "len" (ds151.map (view S152))) S152)) fun d153 S154 =>
 (R.opt ((cmpD .LtE (view S154 d153) (.int 60)).map D.bl) S154)) fun d155 S156 =>
 (blD d155 S156)) fun t157 S158 =>
 (if t157 then (R.bind (R.bind (R.bind (R.bind (rdE (getSl (fz (fz ρ147 4) 4) 4) S158) fun d159 S160 =>
 (.ok [d159] S160)) fun ds161 S162 =>
 (C "_law_text" ds161 S162)) fun d163 S164 =>
 (R.bind (rdT (getSl (fz (fz ρ147 4) 4) 0) S164) fun d165 S166 =>
 (R.opt ((cmpD .Eq (view S166 d163) (view S166 d165)).map D.bl) S166))) fun d167 S168 =>
 (blD d167 S168)) else .ok false S158)) fun t169 S170 =>
 (if t169 then (rdE (getSl (fz (fz ρ147 4) 4) 4) S170) else (.ok .non S170))) (fz (fz ρ147 4) 4) fun d171 S172 =>
 (.ret d171 S172)) fun ρ173 S174 =>
(.nx ρ173 S174))))))
def s__law_read (C : Call) (a0 : D) (S : Sto) : R D := O.fin (s__law_read_b C [.val a0, .un, .un, .un, .un, .un, .un, .un, .un, .un] S)
def s__law_told_b (C : Call) (ρ : Ev) (S : Sto) : O :=
(O.seq (tryH md.g 2 "LeafwardError" "_law_class" (fun wd => some (.tup [(.str "refused"), wd])) (O.seq (R.run (R.bind (R.bind (R.bind (rdT (getSl (fz (fz ρ 1) 1) 0) S) fun d1 S2 =>
 (R.opt ((cmpD .Eq (view S2 d1) (.int 0)).map D.bl) S2)) fun d3 S4 =>
 (blD d3 S4)) fun t5 S6 =>
 (if t5 then (R.bind (R.bind (rdE (getSl (fz (fz ρ 1) 1) 1) S6) fun d7 S8 =>
 (.ok [d7] S8)) fun ds9 S10 =>
 (C "read_schema" ds9 S10)) else (R.bind (R.bind (rdE (getSl (fz (fz ρ 1) 1) 1) S6) fun d11 S12 =>
 (.ok [d11] S12)) fun ds13 S14 =>
 (C "written_schema" ds13 S14)))) (fz (fz ρ 1) 1) fun d15 S16 =>
 (.ret d15 S16)) fun ρ17 S18 =>
(.nx ρ17 S18))) fun ρ19 S20 =>
(.nx ρ19 S20))
def s__law_told (C : Call) (a0 a1 : D) (S : Sto) : R D := O.fin (s__law_told_b C [.val a0, .val a1, .un] S)
def s__law_agrees_b (C : Call) (ρ : Ev) (S : Sto) : O :=
(O.seq (if decide (1 < (fz ρ 0).length) then (R.run (R.bind (R.bind (rdE (getSl (fz ρ 0) 0) S) fun d1 S2 =>
 (.ok [d1] S2)) fun ds3 S4 =>
 (C "_law_read" ds3 S4)) (fz ρ 0) fun d5 S6 =>
 (.nx ((fz ρ 0).set 1 (.val d5)) S6)) else .bad) fun ρ7 S8 =>
(O.seq (R.run (R.bind (R.bind (R.bind (R.bind (R.bind (R.bind (rdE (getSl (fz (fz ρ7 0) 1) 0) S8) fun d9 S10 =>
 (.ok [d9] S10)) fun ds11 S12 =>
 (.ok ((.int 0) :: ds11) S12)) fun ds13 S14 =>
 (C "_law_told" ds13 S14)) fun d15 S16 =>
 (.ok [d15] S16)) fun ds17 S18 =>
 (R.opt (callD "repr" (ds17.map (view S18))) S18)) fun d19 S20 =>
 (R.bind (R.bind (R.bind (R.bind (R.bind (R.bind (rdT (getSl (fz (fz ρ7 0) 1) 1) S20) fun d21 S22 =>
 (R.opt ((cmpD .Is (view S22 d21) .non).map D.bl) S22)) fun d23 S24 =>
 (blD d23 S24)) fun t25 S26 =>
 (if t25 then (.ok (.tup [(.str "refused"), (.str "text")]) S26) else (rdE (getSl (fz (fz ρ7 0) 1) 1) S26))) fun d27 S28 =>
 (.ok [d27] S28)) fun ds29 S30 =>
 (R.opt (callD "repr" (ds29.map (view S30))) S30)) fun d31 S32 =>
 (R.opt ((cmpD .Eq (view S32 d19) (view S32 d31)).map D.bl) S32))) (fz (fz ρ7 0) 1) fun d33 S34 =>
 (.ret d33 S34)) fun ρ35 S36 =>
(.nx ρ35 S36)))
def s__law_agrees (C : Call) (a0 : D) (S : Sto) : R D := O.fin (s__law_agrees_b C [.val a0, .un] S)
def s__law_spoilt_r9 (C : Call) (ρ : Ev) (S : Sto) : O :=
(O.seq (R.run (strM (.str "
") fun z174 => (R.bind (R.bind (R.bind (R.bind (rdT (getSl ρ 5) S) fun d175 S176 =>
 (R.bind (R.bind (rdE (getSl ρ 2) S176) fun d177 S178 =>
 (ixD d177 S178)) fun o179 S180 =>
 (R.opt (sliceD (view S180 d175) none o179) S180))) fun d181 S182 =>
 (R.bind (R.bind (rdT (getSl ρ 5) S182) fun d183 S184 =>
 (R.bind (R.bind (R.bind (rdT (getSl ρ 2) S184) fun d185 S186 =>
 (R.opt (binD .Add (view S186 d185) (.int 1)) S186)) fun d187 S188 =>
 (ixD d187 S188)) fun o189 S190 =>
 (R.opt (sliceD (view S190 d183) o189 none) S190))) fun d191 S192 =>
 (R.opt (binD .Add (view S192 d181) (view S192 d191)) S192))) fun d193 S194 =>
 (R.bind (R.bind (rdT (getSl ρ 5) S194) fun d195 S196 =>
 (R.bind (R.bind (rdE (getSl ρ 2) S196) fun d197 S198 =>
 (ixD d197 S198)) fun o199 S200 =>
 (R.bind (R.bind (R.bind (rdT (getSl ρ 2) S200) fun d201 S202 =>
 (R.opt (binD .Add (view S202 d201) (.int 1)) S202)) fun d203 S204 =>
 (ixD d203 S204)) fun o205 S206 =>
 (R.opt (sliceD (view S206 d195) o199 o205) S206)))) fun d207 S208 =>
 (R.opt (binD .Add (view S208 d193) (view S208 d207)) S208))) fun d209 S210 =>
 (R.opt (joinD z174 d209) S210))) ρ fun d211 S212 =>
 (.ret d211 S212)) fun ρ213 S214 =>
(.nx ρ213 S214))
def s__law_spoilt_r8 (C : Call) (ρ : Ev) (S : Sto) : O :=
(O.seq (if decide (2 < (fz ρ 0).length) then (R.run (R.bind (R.bind (rdE (getSl (fz ρ 0) 0) S) fun d158 S159 =>
 (R.bind (R.bind (R.bind (R.bind (rdT (getSl (fz ρ 0) 5) S159) fun d160 S161 =>
 (.ok [d160] S161)) fun ds162 S163 =>
 (R.opt (callD "len" (ds162.map (view S163))) S163)) fun d164 S165 =>
 (.ok [d164] S165)) fun ds166 S167 =>
 (.ok (d158 :: ds166) S167))) fun ds168 S169 =>
 (C "_law_take" ds168 S169)) (fz ρ 0) fun d170 S171 =>
 (.nx ((fz ρ 0).set 2 (.val d170)) S171)) else .bad) fun ρ172 S173 =>
(s__law_spoilt_r9 C ρ172 S173))
def s__law_spoilt_r7 (C : Call) (ρ : Ev) (S : Sto) : O :=
(O.seq (if decide (5 < ρ.length) then (R.run (R.bind (rdT (getSl ρ 1) S) fun d152 S153 =>
 (strM d152 fun z151 => (R.opt (splitD z151 (.str "
")) S153))) ρ fun d154 S155 =>
 (.nx (ρ.set 5 (.val d154)) S155)) else .bad) fun ρ156 S157 =>
(s__law_spoilt_r8 C ρ156 S157))
def s__law_spoilt_r6 (C : Call) (ρ : Ev) (S : Sto) : O :=
(O.seq (R.run (R.bind (R.bind (rdT (getSl ρ 4) S) fun d131 S132 =>
 (R.opt ((cmpD .Eq (view S132 d131) (.int 3)).map D.bl) S132)) fun d133 S134 =>
 (blD d133 S134)) ρ fun t135 S136 =>
 (if t135 then (O.seq (R.run (R.bind (rdT (getSl (fz ρ 0) 1) S136) fun d137 S138 =>
 (R.bind (R.bind (R.bind (rdE (getSl (fz ρ 0) 0) S138) fun d139 S140 =>
 (.ok [d139, (.lst [(.str "
"), (.str " "), (.str "
1:"), (.str " 4.0.0")])] S140)) fun ds141 S142 =>
 (C "_law_pick" ds141 S142)) fun d143 S144 =>
 (R.opt (binD .Add (view S144 d137) (view S144 d143)) S144))) (fz ρ 0) fun d145 S146 =>
 (.ret d145 S146)) fun ρ147 S148 =>
(.nx ρ147 S148)) else (.nx ρ S136))) fun ρ149 S150 =>
(s__law_spoilt_r7 C ρ149 S150))
def s__law_spoilt_r5 (C : Call) (ρ : Ev) (S : Sto) : O :=
(O.seq (R.run (R.bind (R.bind (rdT (getSl ρ 4) S) fun d97 S98 =>
 (R.opt ((cmpD .Eq (view S98 d97) (.int 2)).map D.bl) S98)) fun d99 S100 =>
 (blD d99 S100)) ρ fun t101 S102 =>
 (if t101 then (O.seq (R.run (R.bind (R.bind (R.bind (rdT (getSl ρ 1) S102) fun d103 S104 =>
 (R.bind (R.bind (rdE (getSl ρ 2) S104) fun d105 S106 =>
 (ixD d105 S106)) fun o107 S108 =>
 (R.opt (sliceD (view S108 d103) none o107) S108))) fun d109 S110 =>
 (R.bind (rdT (getSl ρ 3) S110) fun d111 S112 =>
 (R.opt (binD .Add (view S112 d109) (view S112 d111)) S112))) fun d113 S114 =>
 (R.bind (R.bind (rdT (getSl ρ 1) S114) fun d115 S116 =>
 (R.bind (R.bind (R.bind (rdT (getSl ρ 2) S116) fun d117 S118 =>
 (R.opt (binD .Add (view S118 d117) (.int 1)) S118)) fun d119 S120 =>
 (ixD d119 S120)) fun o121 S122 =>
 (R.opt (sliceD (view S122 d115) o121 none) S122))) fun d123 S124 =>
 (R.opt (binD .Add (view S124 d113) (view S124 d123)) S124))) ρ fun d125 S126 =>
 (.ret d125 S126)) fun ρ127 S128 =>
(.nx ρ127 S128)) else (.nx ρ S102))) fun ρ129 S130 =>
(s__law_spoilt_r6 C ρ129 S130))
def s__law_spoilt_r4 (C : Call) (ρ : Ev) (S : Sto) : O :=
(O.seq (R.run (R.bind (R.bind (rdT (getSl ρ 4) S) fun d65 S66 =>
 (R.opt ((cmpD .Eq (view S66 d65) (.int 1)).map D.bl) S66)) fun d67 S68 =>
 (blD d67 S68)) ρ fun t69 S70 =>
 (if t69 then (O.seq (R.run (R.bind (R.bind (R.bind (rdT (getSl ρ 1) S70) fun d71 S72 =>
 (R.bind (R.bind (rdE (getSl ρ 2) S72) fun d73 S74 =>
 (ixD d73 S74)) fun o75 S76 =>
 (R.opt (sliceD (view S76 d71) none o75) S76))) fun d77 S78 =>
 (R.bind (rdT (getSl ρ 3) S78) fun d79 S80 =>
 (R.opt (binD .Add (view S80 d77) (view S80 d79)) S80))) fun d81 S82 =>
 (R.bind (R.bind (rdT (getSl ρ 1) S82) fun d83 S84 =>
 (R.bind (R.bind (rdE (getSl ρ 2) S84) fun d85 S86 =>
 (ixD d85 S86)) fun o87 S88 =>
 (R.opt (sliceD (view S88 d83) o87 none) S88))) fun d89 S90 =>
 (R.opt (binD .Add (view S90 d81) (view S90 d89)) S90))) ρ fun d91 S92 =>
 (.ret d91 S92)) fun ρ93 S94 =>
(.nx ρ93 S94)) else (.nx ρ S70))) fun ρ95 S96 =>
(s__law_spoilt_r5 C ρ95 S96))
def s__law_spoilt_r3 (C : Call) (ρ : Ev) (S : Sto) : O :=
(O.seq (R.run (R.bind (R.bind (rdT (getSl ρ 4) S) fun d35 S36 =>
 (R.opt ((cmpD .Eq (view S36 d35) (.int 0)).map D.bl) S36)) fun d37 S38 =>
 (blD d37 S38)) ρ fun t39 S40 =>
 (if t39 then (O.seq (R.run (R.bind (R.bind (rdT (getSl ρ 1) S40) fun d41 S42 =>
 (R.bind (R.bind (rdE (getSl ρ 2) S42) fun d43 S44 =>
 (ixD d43 S44)) fun o45 S46 =>
 (R.opt (sliceD (view S46 d41) none o45) S46))) fun d47 S48 =>
 (R.bind (R.bind (rdT (getSl ρ 1) S48) fun d49 S50 =>
 (R.bind (R.bind (R.bind (rdT (getSl ρ 2) S50) fun d51 S52 =>
 (R.opt (binD .Add (view S52 d51) (.int 1)) S52)) fun d53 S54 =>
 (ixD d53 S54)) fun o55 S56 =>
 (R.opt (sliceD (view S56 d49) o55 none) S56))) fun d57 S58 =>
 (R.opt (binD .Add (view S58 d47) (view S58 d57)) S58))) ρ fun d59 S60 =>
 (.ret d59 S60)) fun ρ61 S62 =>
(.nx ρ61 S62)) else (.nx ρ S40))) fun ρ63 S64 =>
(s__law_spoilt_r4 C ρ63 S64))
def s__law_spoilt_r2 (C : Call) (ρ : Ev) (S : Sto) : O :=
(O.seq (if decide (4 < (fz ρ 0).length) then (R.run (R.bind (R.bind (rdE (getSl (fz ρ 0) 0) S) fun d27 S28 =>
 (.ok [d27, (.int 5)] S28)) fun ds29 S30 =>
 (C "_law_take" ds29 S30)) (fz ρ 0) fun d31 S32 =>
 (.nx ((fz ρ 0).set 4 (.val d31)) S32)) else .bad) fun ρ33 S34 =>
(s__law_spoilt_r3 C ρ33 S34))
def s__law_spoilt_r1 (C : Call) (ρ : Ev) (S : Sto) : O :=
(O.seq (if decide (3 < (fz ρ 0).length) then (R.run (R.bind (R.bind (rdE (getSl (fz ρ 0) 0) S) fun d19 S20 =>
 (.ok [d19, (.lst [(.str "0"), (.str "1"), (.str "2"), (.str "."), (.str " "), (.str ":"), (.str "
"), (.str "-"), (.str "e"), (.str "end"), (.str "5"), (.str "9"), (.str "	"), (.str "_")])] S20)) fun ds21 S22 =>
 (C "_law_pick" ds21 S22)) (fz ρ 0) fun d23 S24 =>
 (.nx ((fz ρ 0).set 3 (.val d23)) S24)) else .bad) fun ρ25 S26 =>
(s__law_spoilt_r2 C ρ25 S26))
def s__law_spoilt_r0 (C : Call) (ρ : Ev) (S : Sto) : O :=
(O.seq (if decide (2 < (fz ρ 0).length) then (R.run (R.bind (R.bind (rdE (getSl (fz ρ 0) 0) S) fun d1 S2 =>
 (R.bind (R.bind (R.bind (R.bind (R.bind (rdT (getSl (fz ρ 0) 1) S2) fun d3 S4 =>
 (.ok [d3] S4)) fun ds5 S6 =>
 (R.opt (callD "len" (ds5.map (view S6))) S6)) fun d7 S8 =>
 (R.opt (binD .Add (view S8 d7) (.int 1)) S8)) fun d9 S10 =>
 (.ok [d9] S10)) fun ds11 S12 =>
 (.ok (d1 :: ds11) S12))) fun ds13 S14 =>
 (C "_law_take" ds13 S14)) (fz ρ 0) fun d15 S16 =>
 (.nx ((fz ρ 0).set 2 (.val d15)) S16)) else .bad) fun ρ17 S18 =>
(s__law_spoilt_r1 C ρ17 S18))
def s__law_spoilt_b (C : Call) (ρ : Ev) (S : Sto) : O :=
(s__law_spoilt_r0 C ρ S)
def s__law_spoilt (C : Call) (a0 a1 : D) (S : Sto) : R D := O.fin (s__law_spoilt_b C [.val a0, .val a1, .un, .un, .un, .un] S)
def s_law_l2_b (C : Call) (ρ : Ev) (S : Sto) : O :=
 (O.seq (if decide (9 < (fz (fz ρ 1) 6).length) then (R.run (R.bind (R.bind (rdE (getSl (fz (fz ρ 1) 6) 1) S) fun d95 S96 =>
 (R.bind (R.bind (rdE (getSl (fz (fz ρ 1) 6) 6) S96) fun d97 S98 =>
 (.ok [d97] S98)) fun ds99 S100 =>
 (.ok (d95 :: ds99) S100))) fun ds101 S102 =>
 (C "_law_spoilt" ds101 S102)) (fz (fz ρ 1) 6) fun d103 S104 =>
 (.nx ((fz (fz ρ 1) 6).set 9 (.val d103)) S104)) else .bad) fun ρ105 S106 =>
(O.seq (R.run (R.bind (R.bind (R.bind (R.bind (R.bind (rdE (getSl (fz (fz (fz ρ105 9) 1) 9) 9) S106) fun d107 S108 =>
 (.ok [d107] S108)) fun ds109 S110 =>
 (C "_law_agrees" ds109 S110)) fun d111 S112 =>
 (tstD d111 S112)) fun t113 S114 =>
 (.ok (!t113) S114)) fun t115 S116 =>
 (if t115 then .ok true S116 else (R.bind (R.bind (R.bind (R.bind (R.bind (R.bind (rdE (getSl (fz (fz (fz ρ105 9) 1) 9) 1) S116) fun d117 S118 =>
 (R.bind (R.bind (rdE (getSl (fz (fz (fz ρ105 9) 1) 9) 9) S118) fun d119 S120 =>
 (.ok [d119] S120)) fun ds121 S122 =>
 (.ok (d117 :: ds121) S122))) fun ds123 S124 =>
 (C "_law_spoilt" ds123 S124)) fun d125 S126 =>
 (.ok [d125] S126)) fun ds127 S128 =>
 (C "_law_agrees" ds127 S128)) fun d129 S130 =>
 (tstD d129 S130)) fun t131 S132 =>
 (.ok (!t131) S132)))) (fz (fz (fz ρ105 9) 1) 9) fun t133 S134 =>
 (if t133 then (O.seq (.ret (.bl false) S134) fun ρ135 S136 =>
(.nx ρ135 S136)) else (.nx (fz (fz (fz ρ105 9) 1) 9) S134))) fun ρ137 S138 =>
(.nx ρ137 S138)))
def s_law_l2 (C : Call) (d : D) (ρ : Ev) (S : Sto) : O := asg1 (asgG 50 (.nm 7) d ρ) S (s_law_l2_b C)
def s_law_l1_b (C : Call) (ρ : Ev) (S : Sto) : O :=
 (O.seq (if decide (4 < (fz (fz (fz ρ 1) 1) 1).length) then (R.run (R.bind (R.bind (R.bind (R.bind (R.bind (rdE (getSl (fz (fz (fz ρ 1) 1) 1) 1) S) fun d9 S10 =>
 (.ok [d9, (.int 5)] S10)) fun ds11 S12 =>
 (C "_law_take" ds11 S12)) fun d13 S14 =>
 (R.opt ((cmpD .Eq (view S14 d13) (.int 0)).map D.bl) S14)) fun d15 S16 =>
 (blD d15 S16)) fun t17 S18 =>
 (if t17 then (R.bind (R.bind (rdE (getSl (fz (fz (fz ρ 1) 1) 1) 1) S18) fun d19 S20 =>
 (.ok [d19] S20)) fun ds21 S22 =>
 (C "_law_wide" ds21 S22)) else (R.bind (R.bind (rdE (getSl (fz (fz (fz ρ 1) 1) 1) 1) S18) fun d23 S24 =>
 (.ok [d23, (.int 4)] S24)) fun ds25 S26 =>
 (C "_law_schema" ds25 S26)))) (fz (fz (fz ρ 1) 1) 1) fun d27 S28 =>
 (.nx ((fz (fz (fz ρ 1) 1) 1).set 4 (.val d27)) S28)) else .bad) fun ρ29 S30 =>
(O.seq (if decide (5 < ρ29.length) then (R.run (R.bind (R.bind (rdT (getSl ρ29 4) S30) fun d31 S32 =>
 (.ok [d31] S32)) fun ds33 S34 =>
 (R.opt (callD "repr" (ds33.map (view S34))) S34)) ρ29 fun d35 S36 =>
 (.nx (ρ29.set 5 (.val d35)) S36)) else .bad) fun ρ37 S38 =>
(O.seq (if decide (6 < (fz ρ37 4).length) then (R.run (R.bind (R.bind (rdE (getSl (fz ρ37 4) 4) S38) fun d39 S40 =>
 (.ok [d39] S40)) fun ds41 S42 =>
 (C "_law_text" ds41 S42)) (fz ρ37 4) fun d43 S44 =>
 (.nx ((fz ρ37 4).set 6 (.val d43)) S44)) else .bad) fun ρ45 S46 =>
(O.seq (R.run (R.bind (R.bind (R.bind (R.bind (R.bind (R.bind (R.bind (R.bind (rdE (getSl (fz (fz ρ45 4) 6) 4) S46) fun d47 S48 =>
 (.ok [d47] S48)) fun ds49 S50 =>
 (.ok ((.int 1) :: ds49) S50)) fun ds51 S52 =>
 (C "_law_told" ds51 S52)) fun d53 S54 =>
 (.ok [d53] S54)) fun ds55 S56 =>
 (R.opt (callD "repr" (ds55.map (view S56))) S56)) fun d57 S58 =>
 (R.bind (R.bind (R.bind (rdT (getSl (fz (fz ρ45 4) 6) 6) S58) fun d59 S60 =>
 (.ok [d59] S60)) fun ds61 S62 =>
 (R.opt (callD "repr" (ds61.map (view S62))) S62)) fun d63 S64 =>
 (R.opt ((cmpD .NotEq (view S64 d57) (view S64 d63)).map D.bl) S64))) fun d65 S66 =>
 (blD d65 S66)) fun t67 S68 =>
 (if t67 then .ok true S68 else (R.bind (R.bind (R.bind (R.bind (R.bind (rdT (getSl (fz (fz ρ45 4) 6) 4) S68) fun d69 S70 =>
 (.ok [d69] S70)) fun ds71 S72 =>
 (R.opt (callD "repr" (ds71.map (view S72))) S72)) fun d73 S74 =>
 (R.bind (rdT (getSl (fz (fz ρ45 4) 6) 5) S74) fun d75 S76 =>
 (R.opt ((cmpD .NotEq (view S76 d73) (view S76 d75)).map D.bl) S76))) fun d77 S78 =>
 (blD d77 S78)) fun t79 S80 =>
 (if t79 then .ok true S80 else (R.bind (R.bind (R.bind (R.bind (rdE (getSl (fz (fz ρ45 4) 6) 6) S80) fun d81 S82 =>
 (.ok [d81] S82)) fun ds83 S84 =>
 (C "_law_agrees" ds83 S84)) fun d85 S86 =>
 (tstD d85 S86)) fun t87 S88 =>
 (.ok (!t87) S88)))))) (fz (fz ρ45 4) 6) fun t89 S90 =>
 (if t89 then (O.seq (.ret (.bl false) S90) fun ρ91 S92 =>
(.nx ρ91 S92)) else (.nx (fz (fz ρ45 4) 6) S90))) fun ρ93 S94 =>
(O.seq (R.run (rangeA1 [(.int 4)] S94) ρ93 fun ds139 S140 =>
 (forL (s_law_l2 C) ds139 ρ93 S140)) fun ρ141 S142 =>
(O.seq (if decide (8 < (fz ρ141 1).length) then (R.run (R.bind (R.bind (rdE (getSl (fz ρ141 1) 1) S142) fun d143 S144 =>
 (R.bind (R.bind (R.bind (R.bind (R.bind (R.bind (rdT (getSl (fz ρ141 1) 4) S144) fun d145 S146 =>
 (R.opt (binD .Add (view S146 d145) (.tup [(.tup [(.bl true)])])) S146)) fun d147 S148 =>
 (R.bind (R.bind (R.bind (rdT (getSl (fz ρ141 1) 4) S148) fun d149 S150 =>
 (R.opt (binD .Add (view S150 d149) (.tup [(.tup [(.int 1), (.tup [])])])) S150)) fun d151 S152 =>
 (R.bind (R.bind (R.bind (rdT (getSl (fz ρ141 1) 4) S152) fun d153 S154 =>
 (R.bind (R.bind (R.bind (R.bind (R.bind (R.bind (R.bind (R.bind (R.bind (R.bind (R.bind (R.bind (R.bind (R.bind (R.bind (rdT (getSl (fz ρ141 1) 4) S154) fun d155 S156 =>
 (.ok [d155] S156)) fun ds157 S158 =>
 (R.opt (callD "len" (ds157.map (view S158))) S158)) fun d159 S160 =>
 (R.opt (binD .Add (view S160 d159) (.int 1)) S160)) fun d161 S162 =>
 (.ok [d161] S162)) fun ds163 S164 =>
 (.ok ((.int 0) :: ds163) S164)) fun ds165 S166 =>
 (.ok ((.int 0) :: ds165) S166)) fun ds167 S168 =>
 (if (ds167).length ≤ LINE then .ok (.tup ds167) S168 else .bad)) fun d169 S170 =>
 (.ok [d169] S170)) fun ds171 S172 =>
 (if (ds171).length ≤ LINE then .ok (.tup ds171) S172 else .bad)) fun d173 S174 =>
 (.ok [d173] S174)) fun ds175 S176 =>
 (.ok ((.bl true) :: ds175) S176)) fun ds177 S178 =>
 (if (ds177).length ≤ LINE then .ok (.tup ds177) S178 else .bad)) fun d179 S180 =>
 (.ok [d179] S180)) fun ds181 S182 =>
 (if (ds181).length ≤ LINE then .ok (.tup ds181) S182 else .bad)) fun d183 S184 =>
 (R.opt (binD .Add (view S184 d153) (view S184 d183)) S184))) fun d185 S186 =>
 (R.bind (R.bind (R.bind (rdT (getSl (fz ρ141 1) 4) S186) fun d187 S188 =>
 (R.opt (binD .Mult (view S188 d187) (.int 61)) S188)) fun d189 S190 =>
 (R.bind (R.bind (R.bind (R.bind (R.bind (rdT (getSl (fz ρ141 1) 4) S190) fun d191 S192 =>
 (R.opt (binD .Add (view S192 d191) (.tup [(.tup [(.bl false), (.tup [(.tup [(.int 5), (.int 0), (.int 0)])])])])) S192)) fun d193 S194 =>
 (.ok [d193] S194)) fun ds195 S196 =>
 (.ok ((.str "0:") :: ds195) S196)) fun ds197 S198 =>
 (.ok (.non :: ds197) S198)) fun ds199 S200 =>
 (.ok (d189 :: ds199) S200))) fun ds201 S202 =>
 (.ok (d185 :: ds201) S202))) fun ds203 S204 =>
 (.ok (d151 :: ds203) S204))) fun ds205 S206 =>
 (.ok (d147 :: ds205) S206))) fun ds207 S208 =>
 (.ok ((.tup []) :: ds207) S208)) fun ds209 S210 =>
 (if (ds209).length ≤ LINE then .ok (.lst ds209) S210 else .bad)) fun d211 S212 =>
 (.ok [d211] S212)) fun ds213 S214 =>
 (.ok (d143 :: ds213) S214))) fun ds215 S216 =>
 (C "_law_pick" ds215 S216)) (fz ρ141 1) fun d217 S218 =>
 (.nx ((fz ρ141 1).set 8 (.val d217)) S218)) else .bad) fun ρ219 S220 =>
(O.seq (R.run (R.bind (R.bind (R.bind (R.bind (R.bind (rdE (getSl (fz ρ219 8) 8) S220) fun d221 S222 =>
 (.ok [d221] S222)) fun ds223 S224 =>
 (.ok ((.int 1) :: ds223) S224)) fun ds225 S226 =>
 (C "_law_told" ds225 S226)) fun d227 S228 =>
 (R.opt ((cmpD .NotEq (view S228 d227) (.tup [(.str "refused"), (.str "schema")])).map D.bl) S228)) fun d229 S230 =>
 (blD d229 S230)) (fz ρ219 8) fun t231 S232 =>
 (if t231 then (O.seq (.ret (.bl false) S232) fun ρ233 S234 =>
(.nx ρ233 S234)) else (.nx (fz ρ219 8) S232))) fun ρ235 S236 =>
(.nx ρ235 S236))))))))
def s_law_l1 (C : Call) (d : D) (ρ : Ev) (S : Sto) : O := asg1 (asgG 50 (.nm 2) d ρ) S (s_law_l1_b C)
def s_law_c1_t (C : Call) (ρ : Ev) (S : Sto) : R Bool :=
 .ok true S
def s_law_c1_e (C : Call) (ρ : Ev) (S : Sto) : R D :=
 (R.bind (R.bind (R.bind (rdT (getSl ρ 10) S) fun d242 S243 =>
 (.ok [d242] S243)) fun ds244 S245 =>
 (R.opt (callD "str" (ds244.map (view S245))) S245)) fun d246 S247 =>
 (R.opt (binD .Add (view S247 d246) (.str ":")) S247))
def s_law_c1 (C : Call) (ρ : Ev) (d : D) (S : Sto) : R (Option D) := lcStep (s_law_c1_t C) (s_law_c1_e C) S (asgG 50 (.nm 10) d (wipeE ρ [10]))
def s_law_r3 (C : Call) (ρ : Ev) (S : Sto) : O :=
(O.seq (R.run (R.bind (C "_law_agrees" [(.str "")] S) fun d257 S258 =>
 (andD d257 S258 fun S256 =>
 (R.bind (R.bind (R.bind (R.bind (rdE (getSl (fz ρ 3) 3) S256) fun d259 S260 =>
 (.ok [d259] S260)) fun ds261 S262 =>
 (.ok ((.int 0) :: ds261) S262)) fun ds263 S264 =>
 (C "_law_told" ds263 S264)) fun d265 S266 =>
 (R.opt ((cmpD .Eq (view S266 d265) (.tup [(.str "refused"), (.str "text")])).map D.bl) S266)))) (fz ρ 3) fun d267 S268 =>
 (.ret d267 S268)) fun ρ269 S270 =>
(.nx ρ269 S270))
def s_law_r2 (C : Call) (ρ : Ev) (S : Sto) : O :=
(O.seq (if decide (3 < ρ.length) then (R.run (strM (.str "
") fun z241 => (R.bind (R.bind (rangeA1 [(.int 61)] S) fun ds248 S249 =>
 (if (ds248).length ≤ LINE then R.bind (compL (s_law_c1 C ρ) ds248 [] S249) fun ys S5 => .ok (.lst ys) S5 else .bad)) fun d250 S251 =>
 (R.opt (joinD z241 d250) S251))) ρ fun d252 S253 =>
 (.nx (ρ.set 3 (.val d252)) S253)) else .bad) fun ρ254 S255 =>
(s_law_r3 C ρ254 S255))
def s_law_r1 (C : Call) (ρ : Ev) (S : Sto) : O :=
(O.seq (R.run (rangeA1 [(.int 2)] S) ρ fun ds237 S238 =>
 (forL (s_law_l1 C) ds237 ρ S238)) fun ρ239 S240 =>
(s_law_r2 C ρ239 S240))
def s_law_r0 (C : Call) (ρ : Ev) (S : Sto) : O :=
(O.seq (if decide (1 < (fz ρ 0).length) then (R.run (R.bind (R.bind (rdE (getSl (fz ρ 0) 0) S) fun d1 S2 =>
 (.ok [d1] S2)) fun ds3 S4 =>
 (C "_law_box" ds3 S4)) (fz ρ 0) fun d5 S6 =>
 (.nx ((fz ρ 0).set 1 (.val d5)) S6)) else .bad) fun ρ7 S8 =>
(s_law_r1 C ρ7 S8))
def s_law_b (C : Call) (ρ : Ev) (S : Sto) : O :=
(s_law_r0 C ρ S)
def s_law (C : Call) (a0 : D) (S : Sto) : R D := O.fin (s_law_b C [.val a0, .un, .un, .un, .un, .un, .un, .un, .un, .un, .un] S)
theorem e_is_whole (C : Call) (a0 : D) (S : Sto) : runFd md.g C d_is_whole.fd [a0] S = s_is_whole C a0 S := by kernel_rfl
theorem c_is_whole (k : Nat) (a0 : D) (S : Sto) : callN md.g (k + 1) "is_whole" [a0] S = s_is_whole (callN md.g k) a0 S := (show callN md.g (k + 1) "is_whole" [a0] S = runFd md.g (callN md.g k) d_is_whole.fd [a0] S by kernel_rfl).trans (e_is_whole _ a0 S)
theorem e_is_within (C : Call) (a0 a1 a2 : D) (S : Sto) : runFd md.g C d_is_within.fd [a0, a1, a2] S = s_is_within C a0 a1 a2 S := by kernel_rfl
theorem c_is_within (k : Nat) (a0 a1 a2 : D) (S : Sto) : callN md.g (k + 1) "is_within" [a0, a1, a2] S = s_is_within (callN md.g k) a0 a1 a2 S := (show callN md.g (k + 1) "is_within" [a0, a1, a2] S = runFd md.g (callN md.g k) d_is_within.fd [a0, a1, a2] S by kernel_rfl).trans (e_is_within _ a0 a1 a2 S)
theorem e_are_rules (C : Call) (a0 a1 : D) (S : Sto) : runFd md.g C d_are_rules.fd [a0, a1] S = s_are_rules C a0 a1 S := by kernel_rfl
theorem c_are_rules (k : Nat) (a0 a1 : D) (S : Sto) : callN md.g (k + 1) "are_rules" [a0, a1] S = s_are_rules (callN md.g k) a0 a1 S := (show callN md.g (k + 1) "are_rules" [a0, a1] S = runFd md.g (callN md.g k) d_are_rules.fd [a0, a1] S by kernel_rfl).trans (e_are_rules _ a0 a1 S)
theorem e_is_schema (C : Call) (a0 : D) (S : Sto) : runFd md.g C d_is_schema.fd [a0] S = s_is_schema C a0 S := by kernel_rfl
theorem c_is_schema (k : Nat) (a0 : D) (S : Sto) : callN md.g (k + 1) "is_schema" [a0] S = s_is_schema (callN md.g k) a0 S := (show callN md.g (k + 1) "is_schema" [a0] S = runFd md.g (callN md.g k) d_is_schema.fd [a0] S by kernel_rfl).trans (e_is_schema _ a0 S)
theorem e_check_schema (C : Call) (a0 : D) (S : Sto) : runFd md.g C d_check_schema.fd [a0] S = s_check_schema C a0 S := by kernel_rfl
theorem c_check_schema (k : Nat) (a0 : D) (S : Sto) : callN md.g (k + 1) "check_schema" [a0] S = s_check_schema (callN md.g k) a0 S := (show callN md.g (k + 1) "check_schema" [a0] S = runFd md.g (callN md.g k) d_check_schema.fd [a0] S by kernel_rfl).trans (e_check_schema _ a0 S)
theorem e_schema_text (C : Call) (a0 : D) (S : Sto) : runFd md.g C d_schema_text.fd [a0] S = s_schema_text C a0 S := by kernel_rfl
theorem c_schema_text (k : Nat) (a0 : D) (S : Sto) : callN md.g (k + 1) "schema_text" [a0] S = s_schema_text (callN md.g k) a0 S := (show callN md.g (k + 1) "schema_text" [a0] S = runFd md.g (callN md.g k) d_schema_text.fd [a0] S by kernel_rfl).trans (e_schema_text _ a0 S)
theorem e_written_schema (C : Call) (a0 : D) (S : Sto) : runFd md.g C d_written_schema.fd [a0] S = s_written_schema C a0 S := by kernel_rfl
theorem c_written_schema (k : Nat) (a0 : D) (S : Sto) : callN md.g (k + 1) "written_schema" [a0] S = s_written_schema (callN md.g k) a0 S := (show callN md.g (k + 1) "written_schema" [a0] S = runFd md.g (callN md.g k) d_written_schema.fd [a0] S by kernel_rfl).trans (e_written_schema _ a0 S)
theorem e_number_in (C : Call) (a0 : D) (S : Sto) : runFd md.g C d_number_in.fd [a0] S = s_number_in C a0 S := by kernel_rfl
theorem c_number_in (k : Nat) (a0 : D) (S : Sto) : callN md.g (k + 1) "number_in" [a0] S = s_number_in (callN md.g k) a0 S := (show callN md.g (k + 1) "number_in" [a0] S = runFd md.g (callN md.g k) d_number_in.fd [a0] S by kernel_rfl).trans (e_number_in _ a0 S)
theorem e_rule_in (C : Call) (a0 : D) (S : Sto) : runFd md.g C d_rule_in.fd [a0] S = s_rule_in C a0 S := by kernel_rfl
theorem c_rule_in (k : Nat) (a0 : D) (S : Sto) : callN md.g (k + 1) "rule_in" [a0] S = s_rule_in (callN md.g k) a0 S := (show callN md.g (k + 1) "rule_in" [a0] S = runFd md.g (callN md.g k) d_rule_in.fd [a0] S by kernel_rfl).trans (e_rule_in _ a0 S)
theorem e_state_in (C : Call) (a0 : D) (S : Sto) : runFd md.g C d_state_in.fd [a0] S = s_state_in C a0 S := by kernel_rfl
theorem c_state_in (k : Nat) (a0 : D) (S : Sto) : callN md.g (k + 1) "state_in" [a0] S = s_state_in (callN md.g k) a0 S := (show callN md.g (k + 1) "state_in" [a0] S = runFd md.g (callN md.g k) d_state_in.fd [a0] S by kernel_rfl).trans (e_state_in _ a0 S)
theorem e_read_schema (C : Call) (a0 : D) (S : Sto) : runFd md.g C d_read_schema.fd [a0] S = s_read_schema C a0 S := by kernel_rfl
theorem c_read_schema (k : Nat) (a0 : D) (S : Sto) : callN md.g (k + 1) "read_schema" [a0] S = s_read_schema (callN md.g k) a0 S := (show callN md.g (k + 1) "read_schema" [a0] S = runFd md.g (callN md.g k) d_read_schema.fd [a0] S by kernel_rfl).trans (e_read_schema _ a0 S)
theorem e__law_box (C : Call) (a0 : D) (S : Sto) : runFd md.g C d__law_box.fd [a0] S = s__law_box C a0 S := by kernel_rfl
theorem c__law_box (k : Nat) (a0 : D) (S : Sto) : callN md.g (k + 1) "_law_box" [a0] S = s__law_box (callN md.g k) a0 S := (show callN md.g (k + 1) "_law_box" [a0] S = runFd md.g (callN md.g k) d__law_box.fd [a0] S by kernel_rfl).trans (e__law_box _ a0 S)
theorem e__law_take (C : Call) (a0 a1 : D) (S : Sto) : runFd md.g C d__law_take.fd [a0, a1] S = s__law_take C a0 a1 S := by kernel_rfl
theorem c__law_take (k : Nat) (a0 a1 : D) (S : Sto) : callN md.g (k + 1) "_law_take" [a0, a1] S = s__law_take (callN md.g k) a0 a1 S := (show callN md.g (k + 1) "_law_take" [a0, a1] S = runFd md.g (callN md.g k) d__law_take.fd [a0, a1] S by kernel_rfl).trans (e__law_take _ a0 a1 S)
theorem e__law_pick (C : Call) (a0 a1 : D) (S : Sto) : runFd md.g C d__law_pick.fd [a0, a1] S = s__law_pick C a0 a1 S := by kernel_rfl
theorem c__law_pick (k : Nat) (a0 a1 : D) (S : Sto) : callN md.g (k + 1) "_law_pick" [a0, a1] S = s__law_pick (callN md.g k) a0 a1 S := (show callN md.g (k + 1) "_law_pick" [a0, a1] S = runFd md.g (callN md.g k) d__law_pick.fd [a0, a1] S by kernel_rfl).trans (e__law_pick _ a0 a1 S)
theorem e__law_label (C : Call) (a0 : D) (S : Sto) : runFd md.g C d__law_label.fd [a0] S = s__law_label C a0 S := by kernel_rfl
theorem c__law_label (k : Nat) (a0 : D) (S : Sto) : callN md.g (k + 1) "_law_label" [a0] S = s__law_label (callN md.g k) a0 S := (show callN md.g (k + 1) "_law_label" [a0] S = runFd md.g (callN md.g k) d__law_label.fd [a0] S by kernel_rfl).trans (e__law_label _ a0 S)
theorem e__law_document (C : Call) (a0 a1 : D) (S : Sto) : runFd md.g C d__law_document.fd [a0, a1] S = s__law_document C a0 a1 S := by kernel_rfl
theorem c__law_document (k : Nat) (a0 a1 : D) (S : Sto) : callN md.g (k + 1) "_law_document" [a0, a1] S = s__law_document (callN md.g k) a0 a1 S := (show callN md.g (k + 1) "_law_document" [a0, a1] S = runFd md.g (callN md.g k) d__law_document.fd [a0, a1] S by kernel_rfl).trans (e__law_document _ a0 a1 S)
theorem e__law_schema (C : Call) (a0 a1 : D) (S : Sto) : runFd md.g C d__law_schema.fd [a0, a1] S = s__law_schema C a0 a1 S := by kernel_rfl
theorem c__law_schema (k : Nat) (a0 a1 : D) (S : Sto) : callN md.g (k + 1) "_law_schema" [a0, a1] S = s__law_schema (callN md.g k) a0 a1 S := (show callN md.g (k + 1) "_law_schema" [a0, a1] S = runFd md.g (callN md.g k) d__law_schema.fd [a0, a1] S by kernel_rfl).trans (e__law_schema _ a0 a1 S)
theorem e__law_wide (C : Call) (a0 : D) (S : Sto) : runFd md.g C d__law_wide.fd [a0] S = s__law_wide C a0 S := by kernel_rfl
theorem c__law_wide (k : Nat) (a0 : D) (S : Sto) : callN md.g (k + 1) "_law_wide" [a0] S = s__law_wide (callN md.g k) a0 S := (show callN md.g (k + 1) "_law_wide" [a0] S = runFd md.g (callN md.g k) d__law_wide.fd [a0] S by kernel_rfl).trans (e__law_wide _ a0 S)
theorem e__law_text (C : Call) (a0 : D) (S : Sto) : runFd md.g C d__law_text.fd [a0] S = s__law_text C a0 S := by kernel_rfl
theorem c__law_text (k : Nat) (a0 : D) (S : Sto) : callN md.g (k + 1) "_law_text" [a0] S = s__law_text (callN md.g k) a0 S := (show callN md.g (k + 1) "_law_text" [a0] S = runFd md.g (callN md.g k) d__law_text.fd [a0] S by kernel_rfl).trans (e__law_text _ a0 S)
theorem e__law_number (C : Call) (a0 a1 : D) (S : Sto) : runFd md.g C d__law_number.fd [a0, a1] S = s__law_number C a0 a1 S := by kernel_rfl
theorem c__law_number (k : Nat) (a0 a1 : D) (S : Sto) : callN md.g (k + 1) "_law_number" [a0, a1] S = s__law_number (callN md.g k) a0 a1 S := (show callN md.g (k + 1) "_law_number" [a0, a1] S = runFd md.g (callN md.g k) d__law_number.fd [a0, a1] S by kernel_rfl).trans (e__law_number _ a0 a1 S)
theorem e__law_rule (C : Call) (a0 a1 : D) (S : Sto) : runFd md.g C d__law_rule.fd [a0, a1] S = s__law_rule C a0 a1 S := by kernel_rfl
theorem c__law_rule (k : Nat) (a0 a1 : D) (S : Sto) : callN md.g (k + 1) "_law_rule" [a0, a1] S = s__law_rule (callN md.g k) a0 a1 S := (show callN md.g (k + 1) "_law_rule" [a0, a1] S = runFd md.g (callN md.g k) d__law_rule.fd [a0, a1] S by kernel_rfl).trans (e__law_rule _ a0 a1 S)
theorem e__law_read (C : Call) (a0 : D) (S : Sto) : runFd md.g C d__law_read.fd [a0] S = s__law_read C a0 S := by kernel_rfl
theorem c__law_read (k : Nat) (a0 : D) (S : Sto) : callN md.g (k + 1) "_law_read" [a0] S = s__law_read (callN md.g k) a0 S := (show callN md.g (k + 1) "_law_read" [a0] S = runFd md.g (callN md.g k) d__law_read.fd [a0] S by kernel_rfl).trans (e__law_read _ a0 S)
theorem e__law_told (C : Call) (a0 a1 : D) (S : Sto) : runFd md.g C d__law_told.fd [a0, a1] S = s__law_told C a0 a1 S := by kernel_rfl
theorem c__law_told (k : Nat) (a0 a1 : D) (S : Sto) : callN md.g (k + 1) "_law_told" [a0, a1] S = s__law_told (callN md.g k) a0 a1 S := (show callN md.g (k + 1) "_law_told" [a0, a1] S = runFd md.g (callN md.g k) d__law_told.fd [a0, a1] S by kernel_rfl).trans (e__law_told _ a0 a1 S)
theorem e__law_agrees (C : Call) (a0 : D) (S : Sto) : runFd md.g C d__law_agrees.fd [a0] S = s__law_agrees C a0 S := by kernel_rfl
theorem c__law_agrees (k : Nat) (a0 : D) (S : Sto) : callN md.g (k + 1) "_law_agrees" [a0] S = s__law_agrees (callN md.g k) a0 S := (show callN md.g (k + 1) "_law_agrees" [a0] S = runFd md.g (callN md.g k) d__law_agrees.fd [a0] S by kernel_rfl).trans (e__law_agrees _ a0 S)
theorem e__law_spoilt (C : Call) (a0 a1 : D) (S : Sto) : runFd md.g C d__law_spoilt.fd [a0, a1] S = s__law_spoilt C a0 a1 S := by kernel_rfl
theorem c__law_spoilt (k : Nat) (a0 a1 : D) (S : Sto) : callN md.g (k + 1) "_law_spoilt" [a0, a1] S = s__law_spoilt (callN md.g k) a0 a1 S := (show callN md.g (k + 1) "_law_spoilt" [a0, a1] S = runFd md.g (callN md.g k) d__law_spoilt.fd [a0, a1] S by kernel_rfl).trans (e__law_spoilt _ a0 a1 S)
theorem e_law (C : Call) (a0 : D) (S : Sto) : runFd md.g C d_law.fd [a0] S = s_law C a0 S := by kernel_rfl
theorem c_law (k : Nat) (a0 : D) (S : Sto) : callN md.g (k + 1) "law" [a0] S = s_law (callN md.g k) a0 S := (show callN md.g (k + 1) "law" [a0] S = runFd md.g (callN md.g k) d_law.fd [a0] S by kernel_rfl).trans (e_law _ a0 S)
end K29
set_option maxHeartbeats 4000000
namespace K29
open PySem Lw
/-! ### texts as lists of signs -/
def cS (l : List Nat) : Str := SX.S l
theorem cS_app (a b : List Nat) : cS a ++ cS b = cS (a ++ b) := SX.S_cat a b
theorem cS_len (a : List Nat) : (cS a).length = a.length := SX.S_len a
theorem cS_inj {a b : List Nat} (h : cS a = cS b) : a = b := SX.S_inj h
def sp (c : Nat) : List Nat → List (List Nat)
  | [] => [[]]
  | x :: l => if x = c then [] :: sp c l else (x :: (sp c l).headD []) :: (sp c l).tail
theorem sp_cons (c x : Nat) (l : List Nat) : sp c (x :: l) = if x = c then [] :: sp c l else (x :: (sp c l).headD []) :: (sp c l).tail := rfl
theorem sp_ne (c : Nat) : ∀ l : List Nat, sp c l ≠ []
  | [] => by simp [sp]
  | x :: l => by
    rw [sp_cons]
    split <;> simp
theorem hd_tl {l : List (List Nat)} (h : l ≠ []) : l.headD [] :: l.tail = l := by
  cases l with
  | nil => exact absurd rfl h
  | cons x l => rfl
theorem spl_sp (c : Nat) : ∀ (l acc : List Nat), TL.spl [c] 0 acc l = (acc ++ (sp c l).headD []) :: (sp c l).tail
  | [], acc => by rw [TL.spl_nil]; simp [sp]
  | x :: l, acc => by
    by_cases h : x = c
    · subst h
      rw [TL.spl_hit (by simp [TL.pre])]
      have ih := spl_sp x l []
      show acc :: TL.spl [x] 0 [] l = _
      rw [ih]
      rw [sp_cons, if_pos rfl]
      simp only [List.nil_append, List.headD_cons, List.append_nil, List.tail_cons]
      rw [hd_tl (sp_ne x l)]
    · rw [TL.spl_miss (by simp [TL.pre, h]), spl_sp c l, sp_cons, if_neg h]
      simp
theorem split_sp (a : List Nat) {c : Nat} (hc : c < 256) : Txt.split (cS a) (cS [c]) = (sp c a).map cS := by
  have e := SX.split_S (a := a) (b := [c]) (by simp) (by simp [hc])
  refine e.trans ?_
  rw [spl_sp c a [], List.nil_append, hd_tl (sp_ne c a)]
  rfl
theorem sp_mem {c : Nat} : ∀ {l p : List Nat}, p ∈ sp c l → c ∉ p ∧ p.length ≤ l.length
  | [], p, h => by
    rw [sp, List.mem_singleton] at h
    subst h; simp
  | x :: l, p, h => by
    rw [sp_cons] at h
    by_cases hx : x = c
    · rw [if_pos hx] at h
      rcases List.mem_cons.mp h with h | h
      · subst h; simp
      · have := sp_mem h; exact ⟨this.1, by rw [List.length_cons]; omega⟩
    · rw [if_neg hx] at h
      rcases List.mem_cons.mp h with h | h
      · subst h
        have hh : (sp c l).headD [] ∈ sp c l := by
          rw [← hd_tl (sp_ne c l)]
          exact List.mem_cons_self ..
        have := sp_mem hh
        refine ⟨fun z => ?_, by rw [List.length_cons, List.length_cons]; omega⟩
        rcases List.mem_cons.mp z with z | z
        · exact hx z.symm
        · exact this.1 z
      · have := sp_mem (List.mem_of_mem_tail h); exact ⟨this.1, by rw [List.length_cons]; omega⟩
theorem sp_len (c : Nat) : ∀ l : List Nat, (sp c l).length ≤ l.length + 1
  | [] => by simp [sp]
  | x :: l => by
    have ih := sp_len c l
    rw [sp_cons]
    split
    · rw [List.length_cons, List.length_cons]; omega
    · rw [List.length_cons, List.length_tail, List.length_cons]; omega
theorem sp_free {c : Nat} : ∀ {p : List Nat} (l : List Nat), c ∉ p → sp c (p ++ c :: l) = p :: sp c l
  | [], l, _ => by
    show sp c (c :: l) = _
    rw [sp, if_pos rfl]
  | x :: p, l, h => by
    have h1 : x ≠ c := fun z => h (by rw [z]; exact List.mem_cons_self ..)
    have ih := sp_free (p := p) l fun z => h (List.mem_cons_of_mem _ z)
    show sp c (x :: (p ++ c :: l)) = _
    rw [sp, if_neg h1, ih]
    rfl
theorem sp_last {c : Nat} : ∀ {p : List Nat}, c ∉ p → sp c p = [p]
  | [], _ => rfl
  | x :: p, h => by
    have h1 : x ≠ c := fun z => h (by rw [z]; exact List.mem_cons_self ..)
    have ih := sp_last (p := p) fun z => h (List.mem_cons_of_mem _ z)
    rw [sp, if_neg h1, ih]
    rfl
/-- parts, each but the first behind the sign c -/
def beh (c : Nat) (ps : List (List Nat)) : List Nat := ps.flatMap fun p => c :: p
theorem sp_beh {c : Nat} : ∀ {p : List Nat} {ps : List (List Nat)}, c ∉ p → (∀ q ∈ ps, c ∉ q) → sp c (p ++ beh c ps) = p :: ps
  | p, [], h, _ => by
    rw [show p ++ beh c [] = p from List.append_nil p, sp_last h]
  | p, q :: ps, h, hs => by
    have e : p ++ beh c (q :: ps) = p ++ c :: (q ++ beh c ps) := rfl
    rw [e, sp_free _ h, sp_beh (hs q (List.mem_cons_self ..)) fun z hz => hs z (List.mem_cons_of_mem _ hz)]
theorem join_beh (c : Nat) : ∀ (p : List Nat) (ps : List (List Nat)), TL.joinL [c] (p :: ps) = p ++ beh c ps
  | p, [] => (List.append_nil p).symm
  | p, q :: ps => by
    show p ++ ([c] ++ TL.joinL [c] (q :: ps)) = _
    rw [join_beh c q ps]
    rfl
/-! ### numbers -/
def nC (n : Nat) : List Nat := TL.numL n
theorem str_num (n : Nat) (h : n < 1000000) : callD "str" [.int (n : Int)] = some (.str (cS (nC n))) := by
  have hl : ((n : Int)).natAbs.log2 < 1920 := by
    rw [Int.natAbs_natCast]
    by_cases z : n = 0
    · subst z; decide
    · rw [Nat.log2_lt z]
      exact Nat.lt_of_lt_of_le h (Nat.le_trans (show 1000000 ≤ 2 ^ 20 by decide) (Nat.pow_le_pow_right (by decide) (by decide)))
  have e : callD "str" [.int (n : Int)] = if ((n : Int)).natAbs.log2 < 1920 then some (.str (Str.ofString (toString (n : Int)))) else none := rfl
  rw [e, if_pos hl]
  exact congrArg (fun z => some (D.str z)) (SX.num_S n)
theorem nC_free {n s : Nat} (h : s < 48 ∨ 57 < s) : s ∉ nC n := TL.numL_free h
theorem nC_inj {m n : Nat} (h : nC m = nC n) : m = n := TL.numL_inj h
theorem nC_len {n : Nat} (h : n < 1000000) : (nC n).length ≤ 6 := TL.numL_len (by decide) h
theorem nC_pos (n : Nat) : 1 ≤ (nC n).length := by
  have := TL.numL_ne n
  cases e : TL.numL n with
  | nil => exact absurd e this
  | cons x l => show 1 ≤ (TL.numL n).length; rw [e]; simp
/-! ### the text of a schema -/
def ruT (r : Rul) : List Nat := nC r.1.toNat ++ beh 46 [nC r.2.1, nC r.2.2]
def endW : List Nat := [101, 110, 100]
def parts (st : Sta) : List (List Nat) := (if st.1 then [endW] else []) ++ st.2.map ruT
def liT (q : Nat) (st : Sta) : List Nat := (nC q ++ [58]) ++ beh 32 (parts st)
def liTs : Nat → List Sta → List (List Nat)
  | _, [] => []
  | q, st :: s => liT q st :: liTs (q + 1) s
def scT (s : List Sta) : List Nat := TL.joinL [10] (liTs 0 s)
theorem mem_beh {c x : Nat} {ps : List (List Nat)} (h : x ∈ beh c ps) : x = c ∨ ∃ p ∈ ps, x ∈ p := by
  obtain ⟨p, hp, hx⟩ := List.mem_flatMap.mp h
  rcases List.mem_cons.mp hx with e | e
  · exact .inl e
  · exact .inr ⟨p, hp, e⟩
theorem ruT_free {r : Rul} {s : Nat} (h : s < 48 ∨ 57 < s) (h2 : s ≠ 46) : s ∉ ruT r := fun z => by
  rcases List.mem_append.mp z with z | z
  · exact nC_free h z
  · rcases mem_beh z with z | ⟨p, hp, z⟩
    · exact h2 z
    · rcases List.mem_cons.mp hp with e | e
      · subst e; exact nC_free h z
      · rw [List.mem_singleton] at e; subst e; exact nC_free h z
theorem ruT_sp (r : Rul) : sp 46 (ruT r) = [nC r.1.toNat, nC r.2.1, nC r.2.2] :=
  sp_beh (nC_free (by decide)) fun q hq => by
    rcases List.mem_cons.mp hq with e | e
    · subst e; exact nC_free (by decide)
    · rw [List.mem_singleton] at e; subst e; exact nC_free (by decide)
theorem ruT_end (r : Rul) : ruT r ≠ endW := fun z => by
  have h : 46 ∈ ruT r := List.mem_append_right _ (List.mem_flatMap.mpr ⟨nC r.2.1, List.mem_cons_self .., List.mem_cons_self ..⟩)
  rw [z] at h
  revert h; decide
theorem parts_free {st : Sta} {s : Nat} (h : s < 48) (h2 : s ≠ 46) : ∀ p ∈ parts st, s ∉ p := fun p hp => by
  rcases List.mem_append.mp hp with z | z
  · split at z
    · rw [List.mem_singleton] at z; subst z
      intro w
      simp only [endW, List.mem_cons, List.not_mem_nil, or_false] at w
      omega
    · cases z
  · obtain ⟨r, _, rfl⟩ := List.mem_map.mp z
    exact ruT_free (.inl h) h2
theorem liT_sp (q : Nat) (st : Sta) : sp 32 (liT q st) = (nC q ++ [58]) :: parts st :=
  sp_beh (fun z => by
    rcases List.mem_append.mp z with z | z
    · exact nC_free (by decide) z
    · revert z; decide) (parts_free (by decide) (by decide))
theorem liT_free (q : Nat) (st : Sta) : 10 ∉ liT q st := fun z => by
  rcases List.mem_append.mp z with z | z
  · rcases List.mem_append.mp z with z | z
    · exact nC_free (by decide) z
    · revert z; decide
  · rcases mem_beh z with z | ⟨p, hp, z⟩
    · revert z; decide
    · exact parts_free (by decide) (by decide) p hp z
theorem liTs_len : ∀ (q : Nat) (s : List Sta), (liTs q s).length = s.length
  | _, [] => rfl
  | q, st :: s => by rw [liTs, List.length_cons, List.length_cons, liTs_len (q + 1) s]
theorem liTs_free : ∀ {q : Nat} {s : List Sta}, ∀ p ∈ liTs q s, 10 ∉ p
  | _, [], p, h => by cases h
  | q, st :: s, p, h => by
    rcases List.mem_cons.mp h with e | e
    · subst e; exact liT_free q st
    · exact liTs_free p e
theorem scT_sp {s : List Sta} (h : s ≠ []) : sp 10 (scT s) = liTs 0 s := by
  cases s with
  | nil => exact absurd rfl h
  | cons st s =>
    have e : scT (st :: s) = liT 0 st ++ beh 10 (liTs 1 s) := join_beh 10 _ _
    rw [e, sp_beh (liT_free 0 st) liTs_free]
    rfl
end K29
set_option maxHeartbeats 4000000
namespace K29
open PySem Lw
/-! ### what the program reads -/
def digB (c : Nat) : Bool := decide (48 ≤ c) && decide (c ≤ 57)
def numP (p : List Nat) : Option Nat := if 1 ≤ p.length ∧ p.length ≤ 2 ∧ p.all digB = true then some (NumText.digitsVal p) else none
def rule3 (a b c : Option Nat) : Option Rul := match a, b, c with
  | some a, some b, some c => some ((a : Int), b, c)
  | _, _, _ => none
def ruP (p : List Nat) : Option Rul := match sp 46 p with
  | [a, b, c] => rule3 (numP a) (numP b) (numP c)
  | _ => none
def allP {α β : Type} (f : α → Option β) : List α → Option (List β)
  | [] => some []
  | x :: xs => match f x, allP f xs with
    | some y, some ys => some (y :: ys)
    | _, _ => none
def endB (ps : List (List Nat)) : Bool := decide (ps.take 1 = [endW])
def restP (ps : List (List Nat)) : List (List Nat) := if endB ps then ps.drop 1 else ps
def stP (line : List Nat) : Option Sta := (allP ruP (restP (sp 32 line).tail)).map fun rs => (endB (sp 32 line).tail, rs)
def stsP (t : List Nat) : Option (List Sta) := allP stP (sp 10 t)
open Classical in
noncomputable def progR (t : List Nat) : Option (List Sta) := if (sp 10 t).length ≤ 60 then (match stsP t with
  | some s => if SchOk s ∧ scT s = t then some s else none
  | none => none) else none
/-! ### what the law reads -/
def lnum (most : Nat) (p : List Nat) : Option Nat := (List.range most).find? fun n => decide (nC n = p)
def lruP (many : Nat) (p : List Nat) : Option Rul := match sp 46 p with
  | [a, b, c] => rule3 (lnum 5 a) (lnum many b) (lnum many c)
  | _ => none
def lstP (many : Nat) (line : List Nat) : Option Sta := match allP (lruP many) (restP (sp 32 line).tail) with
  | some rs => if rs.Pairwise ltR then some (endB (sp 32 line).tail, rs) else none
  | none => none
def lawR (t : List Nat) : Option (List Sta) := match allP (lstP (sp 10 t).length) (sp 10 t) with
  | some s => if s.length ≤ 60 ∧ scT s = t then some s else none
  | none => none
/-! ### both read the texts of schemas, and no other -/
theorem numP_nC {n : Nat} (h : n < 100) : numP (nC n) = some n := by
  unfold numP
  have l2 : (nC n).length ≤ 2 := TL.numL_len (by decide) h
  have dg : (nC n).all digB = true := List.all_eq_true.mpr fun c hc => by
    have := TL.numL_digits n c hc
    unfold digB
    rw [decide_eq_true this.1, decide_eq_true this.2]; rfl
  rw [if_pos ⟨nC_pos n, l2, dg⟩]
  exact congrArg some (TL.numL_val n)
theorem lnum_nC {n m : Nat} (h : n < m) : lnum m (nC n) = some n := by
  unfold lnum
  rw [List.find?_eq_some_iff_append]
  obtain ⟨k, rfl⟩ : ∃ k, m = n + (k + 1) := ⟨m - n - 1, by omega⟩
  refine ⟨by simp, List.range n, ((List.range k).map Nat.succ).map (n + ·), ?_, fun x hx => ?_⟩
  · rw [List.range_add, List.range_succ_eq_map]; rfl
  · have hx := List.mem_range.mp hx
    have : nC x ≠ nC n := fun z => by have := nC_inj z; omega
    simp [this]
theorem lnum_lt {m n : Nat} {p : List Nat} (h : lnum m p = some n) : n < m := List.mem_range.mp (List.mem_of_find?_eq_some h)
theorem allP_map {α β γ : Type} {f : α → Option β} {e : γ → α} {g : γ → β} : ∀ (l : List γ), (∀ x ∈ l, f (e x) = some (g x)) → allP f (l.map e) = some (l.map g)
  | [], _ => rfl
  | x :: l, h => by
    rw [List.map_cons, allP, h x (List.mem_cons_self ..), allP_map l fun y hy => h y (List.mem_cons_of_mem _ hy)]
    rfl
theorem allP_mem {α β : Type} {f : α → Option β} : ∀ {l : List α} {r : List β}, allP f l = some r → (∀ y ∈ r, ∃ x ∈ l, f x = some y) ∧ r.length = l.length
  | [], _, h => by cases h; exact ⟨fun y hy => by (cases hy), rfl⟩
  | x :: l, r, h => by
    rw [allP] at h
    split at h
    · rename_i y ys e1 e2
      cases h
      obtain ⟨h1, h2⟩ := allP_mem e2
      refine ⟨fun z hz => ?_, by rw [List.length_cons, List.length_cons, h2]⟩
      rcases List.mem_cons.mp hz with e | e
      · subst e; exact ⟨x, List.mem_cons_self .., e1⟩
      · obtain ⟨w, hw, ew⟩ := h1 z e; exact ⟨w, List.mem_cons_of_mem _ hw, ew⟩
    · cases h
theorem rest_parts (st : Sta) : endB (parts st) = st.1 ∧ restP (parts st) = st.2.map ruT := by
  obtain ⟨b, rs⟩ := st
  cases b with
  | true =>
    have e : endB (parts (true, rs)) = true := by unfold endB parts; simp
    exact ⟨e, by unfold restP; rw [e]; rfl⟩
  | false =>
    have e : endB (parts (false, rs)) = false := by
      unfold endB parts
      cases rs with
      | nil => simp [endW]
      | cons r rs => simp [ruT_end r]
    exact ⟨e, by unfold restP; rw [e]; rfl⟩
theorem rule_back {r : Rul} (h : 0 ≤ r.1) : rule3 (some r.1.toNat) (some r.2.1) (some r.2.2) = some r := by
  obtain ⟨a, x, y⟩ := r
  have h : 0 ≤ a := h
  show some (((a.toNat : Nat) : Int), x, y) = _
  rw [Int.toNat_of_nonneg h]
theorem ruP_ruT {r : Rul} (h : 0 ≤ r.1 ∧ r.1 ≤ 4) (h1 : r.2.1 < 100) (h2 : r.2.2 < 100) : ruP (ruT r) = some r := by
  unfold ruP
  rw [ruT_sp]
  show rule3 (numP _) (numP _) (numP _) = _
  rw [numP_nC (by omega), numP_nC h1, numP_nC h2, rule_back h.1]
theorem lruP_ruT {m : Nat} {r : Rul} (h : 0 ≤ r.1 ∧ r.1 ≤ 4) (h1 : r.2.1 < m) (h2 : r.2.2 < m) : lruP m (ruT r) = some r := by
  unfold lruP
  rw [ruT_sp]
  show rule3 (lnum _ _) (lnum _ _) (lnum _ _) = _
  rw [lnum_nC (by omega), lnum_nC h1, lnum_nC h2, rule_back h.1]
theorem stP_liT {n q : Nat} (hn : n ≤ 60) {st : Sta} (h : RulesOk n st.2) : stP (liT q st) = some st := by
  unfold stP
  rw [liT_sp, List.tail_cons, (rest_parts st).1, (rest_parts st).2]
  have e := allP_map (f := ruP) (e := ruT) (g := id) st.2 fun r hr => ruP_ruT (h.ok r hr).1 (by have := (h.ok r hr).2.1; omega) (by have := (h.ok r hr).2.2; omega)
  rw [e, List.map_id]
  rfl
theorem lstP_liT {n q : Nat} {st : Sta} (h : RulesOk n st.2) : lstP n (liT q st) = some st := by
  unfold lstP
  rw [liT_sp, List.tail_cons, (rest_parts st).1, (rest_parts st).2]
  have e := allP_map (f := lruP n) (e := ruT) (g := id) st.2 fun r hr => lruP_ruT (h.ok r hr).1 (h.ok r hr).2.1 (h.ok r hr).2.2
  rw [e, List.map_id]
  show (if st.2.Pairwise ltR then some (st.1, st.2) else none) = _
  rw [if_pos h.inc]
theorem allP_liTs {f : List Nat → Option Sta} : ∀ (s : List Sta) (q : Nat), (∀ q, ∀ st ∈ s, f (liT q st) = some st) → allP f (liTs q s) = some s
  | [], _, _ => rfl
  | st :: s, q, h => by
    rw [liTs, allP, h q st (List.mem_cons_self ..), allP_liTs s (q + 1) fun q' y hy => h q' y (List.mem_cons_of_mem _ hy)]
theorem ne_of_lo {s : List Sta} (h : SchOk s) : s ≠ [] := fun z => by
  have := h.lo
  rw [z] at this
  exact absurd this (by decide)
open Classical in
theorem progR_iff (t : List Nat) (s : List Sta) : progR t = some s ↔ SchOk s ∧ scT s = t := by
  constructor
  · intro h
    unfold progR at h
    split at h
    · split at h
      · split at h
        · rename_i c
          cases h
          exact c
        · cases h
      · cases h
    · cases h
  · rintro ⟨hs, rfl⟩
    have e : stsP (scT s) = some s := by
      unfold stsP
      rw [scT_sp (ne_of_lo hs)]
      exact allP_liTs s 0 fun q st hst => stP_liT hs.hi (hs.rules st hst)
    unfold progR
    rw [if_pos (by rw [scT_sp (ne_of_lo hs), liTs_len]; exact hs.hi), e]
    show (if SchOk s ∧ scT s = scT s then some s else none) = _
    rw [if_pos ⟨hs, rfl⟩]
theorem beh_len (c : Nat) : ∀ ps : List (List Nat), ps.length ≤ (beh c ps).length
  | [] => Nat.le_refl _
  | p :: ps => by
    have ih := beh_len c ps
    show ps.length + 1 ≤ (c :: p ++ beh c ps).length
    rw [List.length_append, List.length_cons]; omega
theorem liT_len (q : Nat) (st : Sta) : st.2.length ≤ (liT q st).length := by
  have h := beh_len 32 (parts st)
  have h2 : st.2.length ≤ (parts st).length := by unfold parts; rw [List.length_append, List.length_map]; omega
  unfold liT
  rw [List.length_append]; omega
theorem rulesN_len : ∀ (s : List Sta) (q : Nat), rulesN s ≤ (beh 10 (liTs q s)).length
  | [], _ => Nat.le_refl _
  | st :: s, q => by
    have ih := rulesN_len s (q + 1)
    have h := liT_len q st
    have e : rulesN (st :: s) = st.2.length + rulesN s := by simp [rulesN]
    show rulesN (st :: s) ≤ (10 :: liT q st ++ beh 10 (liTs (q + 1) s)).length
    rw [e, List.length_append, List.length_cons]; omega
theorem scT_len (s : List Sta) (h : s ≠ []) : rulesN s ≤ (scT s).length + 1 := by
  cases s with
  | nil => exact absurd rfl h
  | cons st s =>
    have e : scT (st :: s) = liT 0 st ++ beh 10 (liTs 1 s) := join_beh 10 _ _
    have h1 := rulesN_len s 1
    have h2 := liT_len 0 st
    have e2 : rulesN (st :: s) = st.2.length + rulesN s := by simp [rulesN]
    rw [e, List.length_append, e2]; omega
theorem lruP_ok {m : Nat} {p : List Nat} {r : Rul} (h : lruP m p = some r) : (0 ≤ r.1 ∧ r.1 ≤ 4) ∧ r.2.1 < m ∧ r.2.2 < m := by
  unfold lruP at h
  split at h
  · unfold rule3 at h
    split at h
    · rename_i e1 e2 e3
      cases h
      have h1 := lnum_lt e1
      exact ⟨⟨by simp, by simp only; omega⟩, lnum_lt e2, lnum_lt e3⟩
    · cases h
  · cases h
theorem lstP_ok {m : Nat} {l : List Nat} {st : Sta} (h : lstP m l = some st) : RulesOk m st.2 := by
  unfold lstP at h
  split at h
  · rename_i rs e
    split at h
    · rename_i c
      cases h
      refine ⟨c, fun r hr => ?_⟩
      obtain ⟨p, _, ep⟩ := (allP_mem e).1 r hr
      exact lruP_ok ep
    · cases h
  · cases h
theorem lawR_iff (t : List Nat) (ht : t.length ≤ 1999) (s : List Sta) : lawR t = some s ↔ SchOk s ∧ scT s = t := by
  constructor
  · intro h
    unfold lawR at h
    split at h
    · rename_i s' e
      split at h
      · rename_i c
        cases h
        obtain ⟨h1, h2⟩ := allP_mem e
        have lo : 1 ≤ s.length := by
          rw [h2]
          have := sp_ne 10 t
          cases z : sp 10 t with
          | nil => exact absurd z this
          | cons x l => simp
        have ne : s ≠ [] := fun z => by rw [z] at lo; exact absurd lo (by decide)
        refine ⟨⟨lo, c.1, fun st hst => ?_, ?_⟩, c.2⟩
        · obtain ⟨l, _, el⟩ := h1 st hst
          rw [h2]
          exact lstP_ok el
        · have := scT_len s ne
          rw [c.2] at this; omega
      · cases h
    · cases h
  · rintro ⟨hs, rfl⟩
    have e : allP (lstP (sp 10 (scT s)).length) (sp 10 (scT s)) = some s := by
      rw [scT_sp (ne_of_lo hs), liTs_len]
      exact allP_liTs s 0 fun q st hst => lstP_liT (hs.rules st hst)
    unfold lawR
    rw [e]
    show (if s.length ≤ 60 ∧ scT s = scT s then some s else none) = _
    rw [if_pos ⟨hs.hi, rfl⟩]
theorem same_read (t : List Nat) (ht : t.length ≤ 1999) : progR t = lawR t := by
  cases h : lawR t with
  | some s => exact (progR_iff t s).mpr ((lawR_iff t ht s).mp h)
  | none =>
    cases h2 : progR t with
    | none => rfl
    | some s =>
      rw [(lawR_iff t ht s).mpr ((progR_iff t s).mp h2)] at h
      cases h
end K29
set_option maxHeartbeats 4000000
namespace K29
open PySem Lw
/-! ### the box -/
def Box (S : Sto) : Prop := ∃ (a b c : Int) (cs : List Int), S = [.lst [.int a, .int b, .int c, .lst (cs.map D.int)]] ∧ 0 ≤ c
theorem pow18 : binD .Pow (.int 10) (.int 18) = some (.int 1000000000000000000) := by rfl
theorem take_neg (C : Call) (m a b c : Int) (cs : List Int) (hm : 0 < m) (hb : b < 0) : s__law_take C (.ref 0) (.int m) [.lst [.int a, .int b, .int c, .lst (cs.map D.int)]] =
    .ok (.int ((((a * 48271 + 69621 * (b + 1 + 20)) % 2147483647) / 7 + (a * 48271 + 69621 * (b + 1 + 20)) % 2147483647) % 1000003 % m)) [.lst [.int ((a * 48271 + 69621 * (b + 1 + 20)) % 2147483647), .int (b + 1), .int c, .lst (cs.map D.int)]] := by
  have h0 : (b == 0) = false := by simp; omega
  have h1 : decide (0 < b) = false := by simp; omega
  simp [s__law_take, s__law_take_b, h0, h1, bn_mulR, bn_mulL, inR64, bn_mod, bn_fdiv, hm]
theorem take_pos (C : Call) (m a b c : Int) (cs : List Int) (hm : 0 < m) (hm2 : m < 1073741824) (hb : 0 < b) : ∃ b', s__law_take C (.ref 0) (.int m) [.lst [.int a, .int b, .int c, .lst (cs.map D.int)]] =
    .ok (.int (a % m)) [.lst [.int (a / m), .int b', .int c, .lst (cs.map D.int)]] := by
  have h0 : (b == 0) = false := by simp; omega
  have h1 : decide (0 < b) = true := by simp; omega
  by_cases h : 0 < a / m
  · exact ⟨b - 1, by simp [s__law_take, s__law_take_b, h0, h1, bn_mulR, bn_mulL, inR64, bn_mod, bn_fdiv, hm, hm2, h]⟩
  · exact ⟨0, by simp [s__law_take, s__law_take_b, h0, h1, bn_mulR, bn_mulL, inR64, bn_mod, bn_fdiv, hm, hm2, h]⟩
theorem take_zero (C : Call) (m a c : Int) (cs : List Int) (hm : 0 < m) (hm2 : m < 1073741824) (hc : 0 ≤ c) : s__law_take C (.ref 0) (.int m) [.lst [.int a, .int 0, .int c, .lst (cs.map D.int)]] =
    match cs[c.toNat]? with
    | none => .ok (.int 0) [.lst [.int 0, .int 0, .int (c + 1), .lst (cs.map D.int)]]
    | some v => s__law_take C (.ref 0) (.int m) [.lst [.int v, .int (if 1000000000000000000 ≤ v then 60 else -9), .int (c + 1), .lst (cs.map D.int)]] := by
  obtain ⟨n, rfl⟩ : ∃ n : Nat, c = n := ⟨c.toNat, by omega⟩
  cases h : cs[n]? with
  | none =>
    have hl : ¬ (n : Int) < (cs.length : Int) := by
      have := List.getElem?_eq_none_iff.mp h
      omega
    simp [s__law_take, s__law_take_b, bn_mulR, bn_mulL, inR64, bn_mod, bn_fdiv, hm, hm2, pow18, hl, h]
  | some v =>
    have hl : (n : Int) < (cs.length : Int) := by
      have := (List.getElem?_eq_some_iff.mp h).1
      omega
    have hi : itemD (.lst (cs.map D.int)) (.int (n : Int)) = some (.int v) := itl_nat (by rw [List.getElem?_map, h]; rfl)
    by_cases hv : 1000000000000000000 ≤ v
    · by_cases hq : 0 < v / m
      · simp [s__law_take, s__law_take_b, bn_mulR, bn_mulL, inR64, bn_mod, bn_fdiv, hm, hm2, pow18, hl, hi, hv, h, hq]
      · simp [s__law_take, s__law_take_b, bn_mulR, bn_mulL, inR64, bn_mod, bn_fdiv, hm, hm2, pow18, hl, hi, hv, h, hq]
    · simp [s__law_take, s__law_take_b, bn_mulR, bn_mulL, inR64, bn_mod, bn_fdiv, hm, hm2, pow18, hl, hi, hv, h]
theorem take_ok (C : Call) (m : Int) (hm : 0 < m) (hm2 : m < 1073741824) {S : Sto} (hS : Box S) : ∃ (v : Int) (S' : Sto), s__law_take C (.ref 0) (.int m) S = .ok (.int v) S' ∧ 0 ≤ v ∧ v < m ∧ Box S' := by
  obtain ⟨a, b, c, cs, rfl, hc⟩ := hS
  have md : ∀ x : Int, 0 ≤ x % m ∧ x % m < m := fun x => ⟨Int.emod_nonneg _ (by omega), Int.emod_lt_of_pos _ hm⟩
  have pos : ∀ a b c, 0 ≤ c → 0 < b → ∃ (v : Int) (S' : Sto), s__law_take C (.ref 0) (.int m) [.lst [.int a, .int b, .int c, .lst (cs.map D.int)]] = .ok (.int v) S' ∧ 0 ≤ v ∧ v < m ∧ Box S' := fun a b c hc hb => by
    obtain ⟨b', e⟩ := take_pos C m a b c cs hm hm2 hb
    exact ⟨_, _, e, (md _).1, (md _).2, _, _, _, _, rfl, hc⟩
  have neg : ∀ a b c, 0 ≤ c → b < 0 → ∃ (v : Int) (S' : Sto), s__law_take C (.ref 0) (.int m) [.lst [.int a, .int b, .int c, .lst (cs.map D.int)]] = .ok (.int v) S' ∧ 0 ≤ v ∧ v < m ∧ Box S' := fun a b c hc hb =>
    ⟨_, _, take_neg C m a b c cs hm hb, (md _).1, (md _).2, _, _, _, _, rfl, hc⟩
  rcases Int.lt_trichotomy b 0 with h | h | h
  · exact neg a b c hc h
  · subst h
    rw [take_zero C m a c cs hm hm2 hc]
    cases cs[c.toNat]? with
    | none => exact ⟨0, _, rfl, by omega, hm, _, _, _, _, rfl, by omega⟩
    | some v =>
      dsimp only
      by_cases hv : 1000000000000000000 ≤ v
      · rw [if_pos hv]; exact pos _ _ _ (by omega) (by omega)
      · rw [if_neg hv]; exact neg _ _ _ (by omega) (by omega)
  · exact pos a b c hc h
/-! ### sizes, measures -/
abbrev g := md.g
theorem whole_ok (k : Nat) (i : Int) (S : Sto) : callN g (k + 1) "is_whole" [.int i] S = .ok (.bl true) S := by
  rw [c_is_whole]
  simp [s_is_whole, s_is_whole_b]
theorem within_g (k : Nat) (i lo hi : Int) (S : Sto) (h : lo ≤ i ∧ i ≤ hi) : callN g (k + 2) "is_within" [.int i, .int lo, .int hi] S = .ok (.bl true) S := by
  rw [c_is_within]
  simp [s_is_within, s_is_within_b, whole_ok, h.1, h.2]
theorem within_ok (k : Nat) (i : Int) (S : Sto) (h : 0 ≤ i ∧ i ≤ 4) : callN g (k + 2) "is_within" [.int i, .int 0, .int 4] S = .ok (.bl true) S := within_g k i 0 4 S h
end K29
set_option maxHeartbeats 4000000
namespace K29
open PySem Lw
/-! ### schemas that are -/
theorem rules_loop (C : Call) (d : D) (n : Nat) (S : Sto) (hw : ∀ i lo hi : Int, lo ≤ i ∧ i ≤ hi → C "is_within" [.int i, .int lo, .int hi] S = .ok (.bl true) S) :
    ∀ (rs : List Rul) (p : Rul) (x : Sl), (∀ r ∈ rs, (0 ≤ r.1 ∧ r.1 ≤ 4) ∧ r.2.1 < n ∧ r.2.2 < n) → (p :: rs).Pairwise ltR →
    ∃ p' x', forL (s_are_rules_l1 C) (rs.map encR) [.val d, .val (.int (n : Int)), .val (encR p), x] S = .nx [.val d, .val (.int (n : Int)), p', x'] S
  | [], p, x, _, _ => ⟨_, x, rfl⟩
  | r :: rs, p, x, h1, h2 => by
    obtain ⟨q1, q2⟩ := List.pairwise_cons.mp h2
    obtain ⟨p', x', ih⟩ := rules_loop C d n S hw rs r (.val (encR r)) (fun u hu => h1 u (List.mem_cons_of_mem _ hu)) q2
    refine ⟨p', x', ?_⟩
    have hl : ltR p r := q1 r (List.mem_cons_self ..)
    have hc := cp_le_R r p
    rw [decide_eq_true hl] at hc
    obtain ⟨⟨a1, a2⟩, a3, a4⟩ := h1 r (List.mem_cons_self ..)
    obtain ⟨a, u, v⟩ := r
    have w1 := hw a 0 4 ⟨a1, a2⟩
    have w2 := hw (u : Int) 0 ((n : Int) - 1) ⟨by omega, by simp only at a3; omega⟩
    have w3 := hw (v : Int) 0 ((n : Int) - 1) ⟨by omega, by simp only at a4; omega⟩
    rw [← ih]
    obtain ⟨b, y, z⟩ := p
    have hc2 : cmpD .LtE (.tup [.int a, .int (u : Int), .int (v : Int)]) (.tup [.int b, .int (y : Int), .int (z : Int)]) = some false := hc
    simp only [List.map_cons, forL]
    simp [s_are_rules_l1, s_are_rules_l1_b, encR, w1, w2, w3, hc2]
theorem rules_ok (k n : Nat) (rs : List Rul) (S : Sto) (h : RulesOk n rs) : callN g (k + 3) "are_rules" [.tup (rs.map encR), .int (n : Int)] S = .ok (.bl true) S := by
  rw [c_are_rules]
  obtain ⟨p', x', q⟩ := rules_loop (callN g (k + 2)) (.tup (rs.map encR)) n S (fun i lo hi h => within_g k i lo hi S h) rs (-1, 0, 0) .un h.ok (List.pairwise_cons.mpr ⟨fun r hr => .inl (by have := (h.ok r hr).1; simp only; omega), h.inc⟩)
  have q2 : forL (s_are_rules_l1 (callN g (k + 2))) (rs.map encR) [.val (.tup (rs.map encR)), .val (.int (n : Int)), .val (.tup [.int (-1), .int 0, .int 0]), .un] S = .nx [.val (.tup (rs.map encR)), .val (.int (n : Int)), p', x'] S := q
  simp [s_are_rules, s_are_rules_b, q2]
theorem schema_loop (C : Call) (d : List Sta) (S : Sto) (hr : ∀ st ∈ d, C "are_rules" [.tup (st.2.map encR), .int (d.length : Int)] S = .ok (.bl true) S) :
    ∀ (s : List Sta) (m : Nat) (x : Sl), (∀ st ∈ s, st ∈ d) → ∃ x', forL (s_is_schema_l1 C) (s.map encQ) [.val (sch d), .val (.int (m : Int)), x] S = .nx [.val (sch d), .val (.int ((m + rulesN s : Nat) : Int)), x'] S
  | [], m, x, _ => ⟨x, by simp [forL, rulesN]⟩
  | st :: s, m, x, h => by
    obtain ⟨x', ih⟩ := schema_loop C d S hr s (m + st.2.length) (.val (encQ st)) fun u hu => h u (List.mem_cons_of_mem _ hu)
    refine ⟨x', ?_⟩
    have q := hr st (h st (List.mem_cons_self ..))
    obtain ⟨b, rs⟩ := st
    have e : m + rs.length + rulesN s = m + rulesN ((b, rs) :: s) := by simp [rulesN]; omega
    rw [e] at ih
    rw [← ih]
    simp only at q
    push_cast
    simp only [List.map_cons, forL]
    simp [s_is_schema_l1, s_is_schema_l1_b, encQ, q]
theorem schema_ok (k : Nat) (s : List Sta) (S : Sto) (h : SchOk s) : callN g (k + 4) "is_schema" [sch s] S = .ok (.bl true) S := by
  rw [c_is_schema]
  obtain ⟨x', q⟩ := schema_loop (callN g (k + 3)) s S (fun st hs => rules_ok k s.length st.2 S (h.rules st hs)) s 0 .un fun _ z => z
  simp only [Nat.zero_add, show ((0 : Nat) : Int) = 0 from rfl] at q
  have h1 := h.lo
  have h2 := h.hi
  have h3 := h.many
  have b1 : decide ((1 : Int) ≤ (s.length : Int)) = true := by simp; omega
  have b2 : decide ((s.length : Int) ≤ 60) = true := by simp; omega
  have b3 : decide ((rulesN s : Int) ≤ 2000) = true := by simp; omega
  simp [s_is_schema, s_is_schema_b, q, b1, b2, b3, show 0 < s.length from h1, show s.length ≤ 60 from h2, show rulesN s ≤ 2000 from h3, show 1 ≤ s.length from h1]
theorem check_schema_ok (k : Nat) (s : List Sta) (S : Sto) (h : SchOk s) : callN g (k + 5) "check_schema" [sch s] S = .ok .non S := by
  rw [c_check_schema]
  simp [s_check_schema, s_check_schema_b, schema_ok k s S h]
/-! ### loops over numbers, filtered -/
theorem compL_filter {α : Type} {step : D → Sto → R (Option D)} {S : Sto} {en : α → D} {p : α → Bool} {f : α → D} : ∀ (xs : List α) (acc : List D), (∀ x ∈ xs, step (en x) S = .ok (if p x then some (f x) else none) S) →
    compL step (xs.map en) acc S = .ok (acc ++ (xs.filter p).map f) S
  | [], acc, _ => by simp [compL]
  | x :: xs, acc, h => by
    have h1 := h x (List.mem_cons_self ..)
    have ih := fun acc => compL_filter (f := f) xs acc fun u hu => h u (List.mem_cons_of_mem _ hu)
    cases hp : p x with
    | true =>
      rw [hp, if_pos rfl] at h1
      simp [compL, h1, ih, hp]
    | false =>
      rw [hp, if_neg (by simp)] at h1
      simp [compL, h1, ih, hp]
theorem compL_rng {step : D → Sto → R (Option D)} {S : Sto} {p : Nat → Bool} (n : Nat) (h : ∀ q, q < n → step (.int (q : Int)) S = .ok (if p q then some (.int (q : Int)) else none) S) :
    compL step (rng 0 n) [] S = .ok (natD ((List.range n).filter p)) S := by
  have e : rng 0 n = (List.range n).map fun q : Nat => D.int (q : Int) := by simp [rng, List.range_eq_range']
  rw [e]
  exact compL_filter (f := fun q : Nat => D.int (q : Int)) (List.range n) [] fun q hq => h q (List.mem_range.mp hq)
theorem rng_len (j n : Nat) : (rng j n).length = n := by simp [rng]
end K29
set_option maxHeartbeats 4000000
namespace K29
open PySem Lw
open Classical
theorem within_f (k : Nat) (i lo hi : Int) (S : Sto) (h : ¬ (lo ≤ i ∧ i ≤ hi)) : callN g (k + 2) "is_within" [.int i, .int lo, .int hi] S = .ok (.bl false) S := by
  rw [c_is_within]
  by_cases h1 : lo ≤ i
  · have h2 : ¬ i ≤ hi := fun z => h ⟨h1, z⟩
    simp [s_is_within, s_is_within_b, whole_ok k i S, h1, h2]
  · simp [s_is_within, s_is_within_b, whole_ok k i S, h1]
def okR (n : Nat) (r : Rul) : Prop := (0 ≤ r.1 ∧ r.1 ≤ 4) ∧ r.2.1 < n ∧ r.2.2 < n
theorem rules_loop_f (k : Nat) (d : D) (n : Nat) (S : Sto) : ∀ (rs : List Rul) (p : Rul) (x : Sl), ¬ ((∀ r ∈ rs, okR n r) ∧ (p :: rs).Pairwise ltR) →
    forL (s_are_rules_l1 (callN g (k + 2))) (rs.map encR) [.val d, .val (.int (n : Int)), .val (encR p), x] S = .ret (.bl false) S
  | [], p, x, h => absurd ⟨fun r hr => by (cases hr), List.pairwise_singleton _ _⟩ h
  | r :: rs, p, x, h => by
    have hc := cp_le_R r p
    have hh : okR n r → ltR p r → ¬ ((∀ u ∈ rs, okR n u) ∧ (r :: rs).Pairwise ltR) := fun h1 h2 h3 => h ⟨fun u hu => by
      rcases List.mem_cons.mp hu with e | e
      · rw [e]; exact h1
      · exact h3.1 u e, List.pairwise_cons.mpr ⟨fun u hu => by
      rcases List.mem_cons.mp hu with e | e
      · rw [e]; exact h2
      · exact ltR_tr h2 ((List.pairwise_cons.mp h3.2).1 u e), h3.2⟩⟩
    have ih := fun h1 h2 => rules_loop_f k d n S rs r (.val (encR r)) (hh h1 h2)
    obtain ⟨a, u, v⟩ := r
    obtain ⟨b, y, z⟩ := p
    simp only [List.map_cons, forL]
    by_cases h1 : 0 ≤ a ∧ a ≤ 4
    · have w1 := within_g k a 0 4 S h1
      by_cases h2 : u < n
      · have w2 := within_g k (u : Int) 0 ((n : Int) - 1) S ⟨by omega, by omega⟩
        by_cases h3 : v < n
        · have w3 := within_g k (v : Int) 0 ((n : Int) - 1) S ⟨by omega, by omega⟩
          by_cases h4 : ltR (b, y, z) (a, u, v)
          · have hc2 : cmpD .LtE (.tup [.int a, .int (u : Int), .int (v : Int)]) (.tup [.int b, .int (y : Int), .int (z : Int)]) = some false := by
              rw [decide_eq_true h4] at hc; exact hc
            have ih2 := ih ⟨h1, h2, h3⟩ h4
            simp only [encR] at ih2
            simp [s_are_rules_l1, s_are_rules_l1_b, encR, w1, w2, w3, hc2, ih2]
          · have hc2 : cmpD .LtE (.tup [.int a, .int (u : Int), .int (v : Int)]) (.tup [.int b, .int (y : Int), .int (z : Int)]) = some true := by
              rw [decide_eq_false h4] at hc; exact hc
            simp [s_are_rules_l1, s_are_rules_l1_b, encR, w1, w2, w3, hc2]
        · have w3 := within_f k (v : Int) 0 ((n : Int) - 1) S (by omega)
          simp [s_are_rules_l1, s_are_rules_l1_b, encR, w1, w2, w3]
      · have w2 := within_f k (u : Int) 0 ((n : Int) - 1) S (by omega)
        simp [s_are_rules_l1, s_are_rules_l1_b, encR, w1, w2]
    · have w1 := within_f k a 0 4 S h1
      simp [s_are_rules_l1, s_are_rules_l1_b, encR, w1]
theorem rules_dec (k n : Nat) (rs : List Rul) (S : Sto) : callN g (k + 3) "are_rules" [.tup (rs.map encR), .int (n : Int)] S = .ok (.bl (decide (RulesOk n rs))) S := by
  by_cases h : RulesOk n rs
  · rw [decide_eq_true h]; exact rules_ok k n rs S h
  · rw [decide_eq_false h, c_are_rules]
    have q := rules_loop_f k (.tup (rs.map encR)) n S rs (-1, 0, 0) .un fun z => h ⟨(List.pairwise_cons.mp z.2).2, z.1⟩
    have q2 : forL (s_are_rules_l1 (callN g (k + 2))) (rs.map encR) [.val (.tup (rs.map encR)), .val (.int (n : Int)), .val (.tup [.int (-1), .int 0, .int 0]), .un] S = .ret (.bl false) S := q
    simp [s_are_rules, s_are_rules_b, q2]
theorem schema_loop_f (C : Call) (d : List Sta) (S : Sto) (hr : ∀ st ∈ d, C "are_rules" [.tup (st.2.map encR), .int (d.length : Int)] S = .ok (.bl (decide (RulesOk d.length st.2))) S) :
    ∀ (s : List Sta) (m : Nat) (x : Sl), (∀ st ∈ s, st ∈ d) → ¬ (∀ st ∈ s, RulesOk d.length st.2) → forL (s_is_schema_l1 C) (s.map encQ) [.val (sch d), .val (.int (m : Int)), x] S = .ret (.bl false) S
  | [], m, x, _, h => absurd (fun st hst => by (cases hst)) h
  | st :: s, m, x, hs, h => by
    have q := hr st (hs st (List.mem_cons_self ..))
    have ih := fun h2 => schema_loop_f C d S hr s (m + st.2.length) (.val (encQ st)) (fun u hu => hs u (List.mem_cons_of_mem _ hu)) h2
    by_cases h1 : RulesOk d.length st.2
    · have ih := ih fun z => h fun u hu => by
        rcases List.mem_cons.mp hu with e | e
        · rw [e]; exact h1
        · exact z u e
      rw [decide_eq_true h1] at q
      obtain ⟨b, rs⟩ := st
      simp only at q
      push_cast at ih
      simp only [encQ] at ih
      simp only [List.map_cons, forL]
      simp [s_is_schema_l1, s_is_schema_l1_b, encQ, q, ih]
    · rw [decide_eq_false h1] at q
      obtain ⟨b, rs⟩ := st
      simp only at q
      simp only [List.map_cons, forL]
      simp [s_is_schema_l1, s_is_schema_l1_b, encQ, q]
theorem schema_dec (k : Nat) (s : List Sta) (S : Sto) (h1 : 1 ≤ s.length) (h2 : s.length ≤ 60) : callN g (k + 4) "is_schema" [sch s] S = .ok (.bl (decide (SchOk s))) S := by
  by_cases h : SchOk s
  · rw [decide_eq_true h]; exact schema_ok k s S h
  · rw [decide_eq_false h, c_is_schema]
    have hr : ∀ st ∈ s, callN g (k + 3) "are_rules" [.tup (st.2.map encR), .int (s.length : Int)] S = .ok (.bl (decide (RulesOk s.length st.2))) S := fun st _ => rules_dec k s.length st.2 S
    have b1 : decide ((1 : Int) ≤ (s.length : Int)) = true := by simp; omega
    have b2 : decide ((s.length : Int) ≤ 60) = true := by simp; omega
    by_cases ha : ∀ st ∈ s, RulesOk s.length st.2
    · obtain ⟨x', q⟩ := schema_loop (callN g (k + 3)) s S (fun st hs => by rw [hr st hs, decide_eq_true (ha st hs)]) s 0 .un fun _ z => z
      simp only [Nat.zero_add, show ((0 : Nat) : Int) = 0 from rfl] at q
      have h3 : ¬ rulesN s ≤ 2000 := fun z => h ⟨h1, h2, ha, z⟩
      simp [s_is_schema, s_is_schema_b, q, b1, b2, show 0 < s.length from h1, show s.length ≤ 60 from h2, h3, show 1 ≤ s.length from h1]
      omega
    · have q := schema_loop_f (callN g (k + 3)) s S hr s 0 .un (fun _ z => z) ha
      simp only [show ((0 : Nat) : Int) = 0 from rfl] at q
      simp [s_is_schema, s_is_schema_b, q, b1, b2, show 0 < s.length from h1, show s.length ≤ 60 from h2, show 1 ≤ s.length from h1]
end K29
set_option maxHeartbeats 4000000
namespace K29
open PySem Lw
/-! ### the text of a schema is written -/
theorem ag_str (x y : Str) (h : x.length + y.length ≤ LINE) : augD .Add (.str x) (.str y) = some (.str (x ++ y)) := by simp [augD, h]
theorem bn_str (x y : Str) (h : x.length + y.length ≤ LINE) : binD .Add (.str x) (.str y) = some (.str (x ++ y)) := by simp [binD, h]
theorem bn_cS (a b : List Nat) (h : a.length + b.length ≤ 16777216) : binD .Add (.str (cS a)) (.str (cS b)) = some (.str (cS (a ++ b))) := by
  rw [bn_str _ _ (by rw [cS_len, cS_len]; exact h), cS_app]
theorem ag_cS (a b : List Nat) (h : a.length + b.length ≤ 16777216) : augD .Add (.str (cS a)) (.str (cS b)) = some (.str (cS (a ++ b))) := by
  rw [ag_str _ _ (by rw [cS_len, cS_len]; exact h), cS_app]
theorem w_dot : ("." : Str) = cS [46] := by kernel_rfl
theorem w_sp : (" " : Str) = cS [32] := by kernel_rfl
theorem w_col : (":" : Str) = cS [58] := by kernel_rfl
theorem w_nl : ("\n" : Str) = cS [10] := by kernel_rfl
theorem w_end : ("end" : Str) = cS endW := by kernel_rfl
theorem w_send : (" end" : Str) = cS (32 :: endW) := by kernel_rfl
theorem w_no : ("" : Str) = cS [] := by kernel_rfl
/-- numbers within what is written here -/
def okN (r : Rul) : Prop := (0 ≤ r.1 ∧ r.1 < 1000) ∧ r.2.1 < 1000000 ∧ r.2.2 < 1000000
theorem ruT_len {r : Rul} (h : okN r) : (ruT r).length ≤ 20 := by
  have l1 := nC_len (n := r.1.toNat) (by have := h.1; omega)
  have l2 := nC_len h.2.1
  have l3 := nC_len h.2.2
  show (nC r.1.toNat ++ (46 :: nC r.2.1 ++ (46 :: nC r.2.2 ++ []))).length ≤ 20
  simp only [List.length_append, List.length_cons, List.length_nil]
  omega
def rulT (rs : List Rul) : List Nat := beh 32 (rs.map ruT)
theorem rulT_cons (r : Rul) (rs : List Rul) : rulT (r :: rs) = (32 :: ruT r) ++ rulT rs := rfl
theorem rulT_len : ∀ {rs : List Rul}, (∀ r ∈ rs, okN r) → (rulT rs).length ≤ 21 * rs.length
  | [], _ => Nat.le_refl _
  | r :: rs, h => by
    have ih := rulT_len (rs := rs) fun u hu => h u (List.mem_cons_of_mem _ hu)
    have l := ruT_len (h r (List.mem_cons_self ..))
    rw [rulT_cons, List.length_append, List.length_cons, List.length_cons]; omega
theorem liT_eq (q : Nat) (st : Sta) : liT q st = (nC q ++ [58]) ++ ((if st.1 then 32 :: endW else []) ++ rulT st.2) := by
  unfold liT parts
  obtain ⟨b, rs⟩ := st
  cases b <;> rfl
theorem rule_text (a : Nat) (x y : Nat) (h1 : a < 1000) (h2 : x < 1000000) (h3 : y < 1000000) :
    ∃ b1 b2 b3 b4 : D, callD "str" [.int (a : Int)] = some (.str (cS (nC a))) ∧ callD "str" [.int (x : Int)] = some (.str (cS (nC x))) ∧ callD "str" [.int (y : Int)] = some (.str (cS (nC y))) ∧
      binD .Add (.str " ") (.str (cS (nC a))) = some b1 ∧ binD .Add b1 (.str ".") = some b2 ∧ binD .Add b2 (.str (cS (nC x))) = some b3 ∧ binD .Add b3 (.str ".") = some b4 ∧ binD .Add b4 (.str (cS (nC y))) = some (.str (cS (32 :: ruT ((a : Int), x, y)))) ∧ (∀ S, view S b1 = b1 ∧ view S b2 = b2 ∧ view S b3 = b3 ∧ view S b4 = b4) := by
  have l1 := nC_len (n := a) (by omega)
  have l2 := nC_len h2
  have l3 := nC_len h3
  have e : 32 :: ruT ((a : Int), x, y) = [32] ++ nC a ++ [46] ++ nC x ++ [46] ++ nC y := by
    unfold ruT beh
    simp
  refine ⟨.str (cS ([32] ++ nC a)), .str (cS ([32] ++ nC a ++ [46])), .str (cS ([32] ++ nC a ++ [46] ++ nC x)), .str (cS ([32] ++ nC a ++ [46] ++ nC x ++ [46])), str_num a (by omega), str_num x h2, str_num y h3, ?_, ?_, ?_, ?_, ?_, fun S => ⟨rfl, rfl, rfl, rfl⟩⟩
  · rw [w_sp]; exact bn_cS _ _ (by simp; omega)
  · rw [w_dot]; exact bn_cS _ _ (by simp; omega)
  · exact bn_cS _ _ (by simp; omega)
  · rw [w_dot]; exact bn_cS _ _ (by simp; omega)
  · rw [e]; exact bn_cS _ _ (by simp; omega)
theorem text_l2 (C : Call) (S : Sto) (a0 a1 a2 a4 a5 : Sl) : ∀ (rs : List Rul) (f : List Nat) (x6 x7 x8 : Sl), (∀ r ∈ rs, okN r) → f.length + 21 * rs.length ≤ 16000000 →
    ∃ y6 y7 y8, forL (s_schema_text_l2 C) (rs.map encR) [a0, a1, a2, .val (.str (cS f)), a4, a5, x6, x7, x8] S = .nx [a0, a1, a2, .val (.str (cS (f ++ rulT rs))), a4, a5, y6, y7, y8] S
  | [], f, x6, x7, x8, _, _ => ⟨x6, x7, x8, by rw [show f ++ rulT [] = f from List.append_nil f]; rfl⟩
  | r :: rs, f, x6, x7, x8, h, hl => by
    have hr := h r (List.mem_cons_self ..)
    have l := ruT_len hr
    rw [List.length_cons] at hl
    obtain ⟨y6, y7, y8, ih⟩ := text_l2 C S a0 a1 a2 a4 a5 rs (f ++ (32 :: ruT r)) (.val (.int r.1)) (.val (.int (r.2.1 : Int))) (.val (.int (r.2.2 : Int))) (fun u hu => h u (List.mem_cons_of_mem _ hu)) (by rw [List.length_append, List.length_cons]; omega)
    refine ⟨y6, y7, y8, ?_⟩
    rw [List.append_assoc, ← rulT_cons] at ih
    rw [← ih]
    obtain ⟨a, x, y⟩ := r
    obtain ⟨⟨g1, g2⟩, g3, g4⟩ := hr
    obtain ⟨n, rfl⟩ : ∃ n : Nat, a = (n : Int) := ⟨a.toNat, by have : 0 ≤ a := g1; omega⟩
    obtain ⟨b1, b2, b3, b4, s1, s2, s3, t1, t2, t3, t4, t5, vv⟩ := rule_text n x y (by have : (n : Int) < 1000 := g2; omega) g3 g4
    have v1 := fun S => (vv S).1
    have v2 := fun S => (vv S).2.1
    have v3 := fun S => (vv S).2.2.1
    have v4 := fun S => (vv S).2.2.2
    have ag := ag_cS f (32 :: ruT ((n : Int), x, y)) (by rw [List.length_cons]; omega)
    simp only [List.map_cons, forL]
    generalize (32 :: ruT ((n : Int), x, y)) = R at *
    simp [s_schema_text_l2, s_schema_text_l2_b, encR, s1, s2, s3, t1, t2, t3, t4, t5, v1, v2, v3, v4, ag]
/-- a line's length -/
theorem liT_bound {q : Nat} {st : Sta} (hq : q < 1000000) (h : ∀ r ∈ st.2, okN r) : (liT q st).length ≤ 20 + 21 * st.2.length := by
  have l1 := nC_len hq
  have l2 := rulT_len h
  rw [liT_eq]
  have l3 : (if st.1 then 32 :: endW else []).length ≤ 4 := by split <;> decide
  simp only [List.length_append, List.length_cons, List.length_nil]
  omega
def strsD (ls : List (List Nat)) : List D := ls.map fun l => D.str (cS l)
theorem text_l1 (C : Call) (S : Sto) (a0 : Sl) : ∀ (s : List Sta) (q : Nat) (acc : List D) (x2 x3 x4 x5 x6 x7 x8 : Sl), (∀ st ∈ s, ∀ r ∈ st.2, okN r) → (∀ st ∈ s, st.2.length ≤ 100000) → q + s.length ≤ 100000 → acc.length = q →
    ∃ y2 y3 y4 y5 y6 y7 y8, forL (s_schema_text_l1 C) (enumD q (s.map encQ)) [a0, .own acc, x2, x3, x4, x5, x6, x7, x8] S = .nx [a0, .own (acc ++ strsD (liTs q s)), y2, y3, y4, y5, y6, y7, y8] S
  | [], q, acc, x2, x3, x4, x5, x6, x7, x8, _, _, _, _ => ⟨x2, x3, x4, x5, x6, x7, x8, by rw [show acc ++ strsD (liTs q []) = acc from List.append_nil acc]; rfl⟩
  | st :: s, q, acc, x2, x3, x4, x5, x6, x7, x8, h, h2, hq, ha => by
    rw [List.length_cons] at hq
    have hr := h st (List.mem_cons_self ..)
    have hl := h2 st (List.mem_cons_self ..)
    have lb := liT_bound (q := q) (by omega) hr
    obtain ⟨b, rs⟩ := st
    have hr : ∀ r ∈ rs, okN r := hr
    have hl : rs.length ≤ 100000 := hl
    have l1 := nC_len (n := q) (by omega)
    have sq := str_num q (by omega)
    have bq : binD .Add (.str (cS (nC q))) (.str ":") = some (.str (cS (nC q ++ [58]))) := by rw [w_col]; exact bn_cS _ _ (by simp; omega)
    have bl : acc.length < LINE := by rw [ha]; unfold LINE; omega
    have bl2 : q < LINE := by unfold LINE; omega
    cases b with
    | true =>
      have be : augD .Add (.str (cS (nC q ++ [58]))) (.str " end") = some (.str (cS (nC q ++ [58] ++ 32 :: endW))) := by rw [w_send]; exact ag_cS _ _ (by simp [endW]; omega)
      obtain ⟨z6, z7, z8, lp⟩ := text_l2 C S a0 (.own acc) (.val (.int (q : Int))) (.val (.bl true)) (.val (.tup (rs.map encR))) rs (nC q ++ [58] ++ 32 :: endW) x6 x7 x8 hr (by simp [endW]; omega)
      obtain ⟨y2, y3, y4, y5, y6, y7, y8, ih⟩ := text_l1 C S a0 s (q + 1) (acc ++ [D.str (cS (liT q (true, rs)))]) (.val (.int (q : Int))) (.val (.str (cS (liT q (true, rs))))) (.val (.bl true)) (.val (.tup (rs.map encR))) z6 z7 z8 (fun u hu => h u (List.mem_cons_of_mem _ hu)) (fun u hu => h2 u (List.mem_cons_of_mem _ hu)) (by omega) (by simp [ha])
      refine ⟨y2, y3, y4, y5, y6, y7, y8, ?_⟩
      have e : acc ++ strsD (liTs q ((true, rs) :: s)) = acc ++ [D.str (cS (liT q (true, rs)))] ++ strsD (liTs (q + 1) s) := by simp [strsD, liTs]
      rw [e, ← ih]
      have el : nC q ++ [58] ++ 32 :: endW ++ rulT rs = liT q (true, rs) := by rw [liT_eq]; simp
      rw [el] at lp
      simp only [List.map_cons, enumD, forL]
      generalize liT q (true, rs) = LT at *
      generalize nC q ++ [58] ++ 32 :: endW = P2 at *
      generalize nC q ++ [58] = P1 at *
      simp [s_schema_text_l1, s_schema_text_l1_b, encQ, sq, bq, be, lp, bl]
    | false =>
      obtain ⟨z6, z7, z8, lp⟩ := text_l2 C S a0 (.own acc) (.val (.int (q : Int))) (.val (.bl false)) (.val (.tup (rs.map encR))) rs (nC q ++ [58]) x6 x7 x8 hr (by simp; omega)
      obtain ⟨y2, y3, y4, y5, y6, y7, y8, ih⟩ := text_l1 C S a0 s (q + 1) (acc ++ [D.str (cS (liT q (false, rs)))]) (.val (.int (q : Int))) (.val (.str (cS (liT q (false, rs))))) (.val (.bl false)) (.val (.tup (rs.map encR))) z6 z7 z8 (fun u hu => h u (List.mem_cons_of_mem _ hu)) (fun u hu => h2 u (List.mem_cons_of_mem _ hu)) (by omega) (by simp [ha])
      refine ⟨y2, y3, y4, y5, y6, y7, y8, ?_⟩
      have e : acc ++ strsD (liTs q ((false, rs) :: s)) = acc ++ [D.str (cS (liT q (false, rs)))] ++ strsD (liTs (q + 1) s) := by simp [strsD, liTs]
      rw [e, ← ih]
      have el : nC q ++ [58] ++ rulT rs = liT q (false, rs) := by rw [liT_eq]; simp
      rw [el] at lp
      simp only [List.map_cons, enumD, forL]
      generalize liT q (false, rs) = LT at *
      generalize nC q ++ [58] = P1 at *
      simp [s_schema_text_l1, s_schema_text_l1_b, encQ, sq, bq, lp, bl]
theorem strsOf_D : ∀ ls : List (List Nat), strsOf (strsD ls) = some (ls.map cS)
  | [] => rfl
  | l :: ls => by
    show (strsOf (strsD ls)).map (cS l :: ·) = _
    rw [strsOf_D ls]; rfl
theorem sum_len : ∀ ls : List (List Nat), ((ls.map cS).map (·.length)).sum = (ls.map List.length).sum
  | [] => rfl
  | l :: ls => by
    simp only [List.map_cons, List.sum_cons, cS_len]
    rw [sum_len ls]
theorem liTs_sum : ∀ {s : List Sta} {q : Nat}, (∀ st ∈ s, ∀ r ∈ st.2, okN r) → q + s.length ≤ 100000 → ((liTs q s).map List.length).sum ≤ 20 * s.length + 21 * rulesN s
  | [], _, _, _ => Nat.zero_le _
  | st :: s, q, h, hq => by
    rw [List.length_cons] at hq
    have ih := liTs_sum (s := s) (q := q + 1) (fun u hu => h u (List.mem_cons_of_mem _ hu)) (by omega)
    have l := liT_bound (q := q) (by omega) (h st (List.mem_cons_self ..))
    have e : rulesN (st :: s) = st.2.length + rulesN s := by simp [rulesN]
    rw [liTs, List.map_cons, List.sum_cons, List.length_cons, e]
    omega
theorem join_scT {s : List Sta} (h : ∀ st ∈ s, ∀ r ∈ st.2, okN r) (hs : s.length ≤ 1000) (hr : rulesN s ≤ 500000) : joinD "\n" (.lst (strsD (liTs 0 s))) = some (.str (cS (scT s))) := by
  have b := liTs_sum (q := 0) h (by omega)
  show joinS "\n" (strsD (liTs 0 s)) = _
  unfold joinS
  rw [strsOf_D, Option.bind_some, sum_len, List.length_map, liTs_len, if_pos (by rw [w_nl, cS_len, List.length_singleton]; omega), w_nl]
  exact congrArg (fun z => some (D.str z)) (SX.join_S [10] (liTs 0 s))
theorem rulesN_mem : ∀ {s : List Sta} {st : Sta}, st ∈ s → st.2.length ≤ rulesN s
  | [], _, h => by cases h
  | x :: s, st, h => by
    have e : rulesN (x :: s) = x.2.length + rulesN s := by simp [rulesN]
    rcases List.mem_cons.mp h with q | q
    · subst q; omega
    · have := rulesN_mem q; omega
theorem schema_text_ok (k : Nat) (s : List Sta) (S : Sto) (h : ∀ st ∈ s, ∀ r ∈ st.2, okN r) (hs : s.length ≤ 1000) (hr : rulesN s ≤ 100000) : callN g (k + 1) "schema_text" [sch s] S = .ok (.str (cS (scT s))) S := by
  rw [c_schema_text]
  obtain ⟨y2, y3, y4, y5, y6, y7, y8, lp⟩ := text_l1 (callN g k) S (.val (sch s)) s 0 [] .un .un .un .un .un .un .un h (fun st hst => by have := rulesN_mem hst; omega) (by omega) rfl
  rw [List.nil_append] at lp
  have jn := join_scT h hs (by omega)
  generalize strsD (liTs 0 s) = L at *
  generalize scT s = T at *
  simp [s_schema_text, s_schema_text_b, enumA, lp, jn]
end K29
set_option maxHeartbeats 4000000
namespace K29
open PySem Lw
/-! ### numbers and rules are read -/
def outO (S : Sto) : Option D → R D
  | some d => .ok d S
  | none => .err "BadText" S
theorem w_0 : ("0" : Str) = cS [48] := by kernel_rfl
theorem w_9 : ("9" : Str) = cS [57] := by kernel_rfl
theorem le_sg (a b : Nat) : cmpD .LtE (.str (cS [a])) (.str (cS [b])) = some (decide (a ≤ b)) := by
  have e : cmpD .LtE (.str (cS [a])) (.str (cS [b])) = some (!decide (([b] : List Nat) < [a])) := rfl
  rw [e]
  congr 1
  by_cases h : a ≤ b
  · rw [decide_eq_true h, decide_eq_false]; rfl
    intro z
    cases z with
    | rel h2 => omega
    | cons h2 => cases h2
  · rw [decide_eq_false h, decide_eq_true]; rfl
    exact List.Lex.rel (by omega)
def sgD (p : List Nat) : List D := p.map fun c => D.str (cS [c])
theorem items_cS (p : List Nat) : itemsD (.str (cS p)) = some (sgD p) := rfl
theorem num_loop (C : Call) (d : Sl) (S : Sto) : ∀ (p : List Nat) (x : Sl), ∃ y, forL (s_number_in_l1 C) (sgD p) [d, x] S = if p.all digB = true then .nx [d, y] S else .err "BadText" [d, y] S
  | [], x => ⟨x, rfl⟩
  | c :: p, x => by
    obtain ⟨y, ih⟩ := num_loop C d S p (.val (.str (cS [c])))
    have c1 := le_sg 48 c
    have c2 := le_sg c 57
    rw [← w_0] at c1
    rw [← w_9] at c2
    have hs : sgD (c :: p) = D.str (cS [c]) :: sgD p := rfl
    rw [hs]
    by_cases h1 : 48 ≤ c
    · by_cases h2 : c ≤ 57
      · refine ⟨y, ?_⟩
        have e : (c :: p).all digB = p.all digB := by simp [digB, h1, h2]
        rw [e, ← ih]
        rw [decide_eq_true h1] at c1
        rw [decide_eq_true h2] at c2
        simp only [forL]
        simp [s_number_in_l1, s_number_in_l1_b, c1, c2]
      · refine ⟨.val (.str (cS [c])), ?_⟩
        have e : (c :: p).all digB = false := by simp [digB, h2]
        rw [if_neg (by rw [e]; decide)]
        rw [decide_eq_true h1] at c1
        rw [decide_eq_false h2] at c2
        simp only [forL]
        simp [s_number_in_l1, s_number_in_l1_b, c1, c2]
    · refine ⟨.val (.str (cS [c])), ?_⟩
      have e : (c :: p).all digB = false := by simp [digB, h1]
      rw [if_neg (by rw [e]; decide)]
      rw [decide_eq_false h1] at c1
      simp only [forL]
      simp [s_number_in_l1, s_number_in_l1_b, c1]
theorem int_dig {p : List Nat} (h : p.all digB = true) (h0 : 1 ≤ p.length) (h2 : p.length ≤ 2) : callD "int" [.str (cS p)] = some (.int ((NumText.digitsVal p : Nat) : Int)) := by
  have e : callD "int" [.str (cS p)] = if (cS p).length ≤ 640 then (intText? (cS p)).map .int else none := rfl
  rw [e, if_pos (by rw [cS_len]; omega)]
  have ne : (cS p).cps.toList ≠ [] := by
    show p ≠ []
    intro z; rw [z] at h0; exact absurd h0 (by decide)
  have ad : NumText.AllDigits (cS p).cps.toList := fun c hc => by
    have hc : c ∈ p := hc
    have := List.all_eq_true.mp h c hc
    unfold digB at this
    simp only [Bool.and_eq_true, decide_eq_true_eq] at this
    exact this
  rw [intText_digits ad ne (by rw [cS_len]; omega)]
  rfl
theorem number_in_ok (k : Nat) (p : List Nat) (S : Sto) (hp : p.length ≤ 16000000) : callN g (k + 1) "number_in" [.str (cS p)] S = outO S ((numP p).map fun n => .int (n : Int)) := by
  rw [c_number_in]
  have len : callD "len" [.str (cS p)] = some (.int (p.length : Int)) := by
    have e : callD "len" [.str (cS p)] = if (cS p).length ≤ LINE then some (.int ((cS p).length : Int)) else none := rfl
    rw [e, cS_len, if_pos (by unfold LINE; omega)]
  have it := items_cS p
  by_cases h : 1 ≤ p.length ∧ p.length ≤ 2
  · have b1 : cmpD .LtE (.int 1) (.int (p.length : Int)) = some true := by
      show some (decide ((1 : Int) ≤ (p.length : Int))) = _
      rw [decide_eq_true (by omega)]
    have b2 : cmpD .LtE (.int (p.length : Int)) (.int 2) = some true := by
      show some (decide ((p.length : Int) ≤ 2)) = _
      rw [decide_eq_true (by omega)]
    obtain ⟨y, lp⟩ := num_loop (callN g k) (.val (.str (cS p))) S p .un
    by_cases hd : p.all digB = true
    · have np : numP p = some (NumText.digitsVal p) := by unfold numP; rw [if_pos ⟨h.1, h.2, hd⟩]
      have i1 := int_dig hd h.1 h.2
      rw [np]
      rw [if_pos hd] at lp
      generalize cS p = T at *
      generalize sgD p = SG at *
      generalize (p.length : Int) = N at *
      simp [s_number_in, s_number_in_b, len, it, b1, b2, lp, i1, outO]
    · have np : numP p = none := by unfold numP; rw [if_neg (fun z => hd z.2.2)]
      rw [np]
      rw [if_neg hd] at lp
      generalize cS p = T at *
      generalize sgD p = SG at *
      generalize (p.length : Int) = N at *
      simp [s_number_in, s_number_in_b, len, it, b1, b2, lp, outO]
  · have np : numP p = none := by unfold numP; rw [if_neg (fun z => h ⟨z.1, z.2.1⟩)]
    rw [np]
    by_cases h1 : 1 ≤ p.length
    · have b1 : cmpD .LtE (.int 1) (.int (p.length : Int)) = some true := by
        show some (decide ((1 : Int) ≤ (p.length : Int))) = _
        rw [decide_eq_true (by omega)]
      have b2 : cmpD .LtE (.int (p.length : Int)) (.int 2) = some false := by
        show some (decide ((p.length : Int) ≤ 2)) = _
        rw [decide_eq_false (by omega)]
      generalize cS p = T at *
      generalize (p.length : Int) = N at *
      simp [s_number_in, s_number_in_b, len, b1, b2, outO]
    · have b1 : cmpD .LtE (.int 1) (.int (p.length : Int)) = some false := by
        show some (decide ((1 : Int) ≤ (p.length : Int))) = _
        rw [decide_eq_false (by omega)]
      generalize cS p = T at *
      generalize (p.length : Int) = N at *
      simp [s_number_in, s_number_in_b, len, b1, outO]
/-- each is read, or one is refused -/
theorem compL_allP {α β : Type} {step : D → Sto → R (Option D)} {en : α → D} {ed : β → D} {f : α → Option β} {c : Str} {S : Sto} : ∀ (l : List α) (acc : List D), (∀ x ∈ l, step (en x) S = match f x with | some y => .ok (some (ed y)) S | none => .err c S) →
    compL step (l.map en) acc S = match allP f l with | some ys => .ok (acc ++ ys.map ed) S | none => .err c S
  | [], acc, _ => by simp [compL, allP]
  | x :: l, acc, h => by
    have h1 := h x (List.mem_cons_self ..)
    have ih := fun a => compL_allP (ed := ed) (f := f) (c := c) l a fun y hy => h y (List.mem_cons_of_mem _ hy)
    rw [List.map_cons, compL, h1, allP]
    cases f x with
    | none => rfl
    | some y =>
      show compL step (l.map en) (acc ++ [ed y]) S = _
      rw [ih]
      cases allP f l with
      | none => rfl
      | some ys => simp
theorem splitD_sp (a : List Nat) {c : Nat} (hc : c < 256) (ha : a.length ≤ 16000000) : splitD (cS a) (.str (cS [c])) = some (.lst (strsD (sp c a))) := by
  have e : splitD (cS a) (.str (cS [c])) = if ((cS [c]).length == 0) = false ∧ (cS a).length + 2 ≤ LINE then some (.lst ((Txt.split (cS a) (cS [c])).map D.str)) else none := rfl
  rw [e, if_pos ⟨by rw [cS_len]; rfl, by rw [cS_len]; unfold LINE; omega⟩, split_sp a hc, List.map_map]
  rfl
theorem ruP_all (p : List Nat) : ruP p = if (sp 46 p).length = 3 then (match allP numP (sp 46 p) with | some [a, b, c] => some ((a : Int), b, c) | _ => none) else none := by
  unfold ruP
  split
  · rename_i a b c e
    rw [e]
    show rule3 (numP a) (numP b) (numP c) = if 3 = 3 then _ else none
    rw [if_pos rfl]
    cases ha : numP a <;> cases hb : numP b <;> cases hc : numP c <;> simp [allP, rule3, ha, hb, hc]
  · rename_i h
    rw [if_neg]
    intro z
    match e : sp 46 p, z with
    | [a, b, c], _ => exact h a b c e
end K29
set_option maxHeartbeats 4000000
namespace K29
open PySem Lw
/-! ### texts compared -/
def Asc (l : List Nat) : Prop := ∀ c ∈ l, c < 128
theorem ok_cS {l : List Nat} (h : Asc l) : PyData.strOk (cS l) = true := by
  show l.toArray.all (· < 0x110000) = true
  rw [List.all_toArray, List.all_eq_true]
  intro c hc
  have := h c hc
  exact decide_eq_true (by omega)
theorem eq_cS {a b : List Nat} (ha : Asc a) (hb : Asc b) : cmpD .Eq (.str (cS a)) (.str (cS b)) = some (decide (a = b)) := by
  rw [cp_eqD, eqv_str _ _ (ok_cS ha) (ok_cS hb)]
  exact congrArg some SX.S_beq_eq
theorem ne_cS {a b : List Nat} (ha : Asc a) (hb : Asc b) : cmpD .NotEq (.str (cS a)) (.str (cS b)) = some (!decide (a = b)) := by
  rw [cp_neD, eqv_str _ _ (ok_cS ha) (ok_cS hb)]
  exact congrArg (fun z => some (!z)) SX.S_beq_eq
theorem asc_nC (n : Nat) : Asc (nC n) := fun c hc => by
  have := TL.numL_digits n c hc
  omega
theorem asc_sp {c : Nat} : ∀ {l p : List Nat}, Asc l → p ∈ sp c l → Asc p
  | [], p, _, h => by
    rw [sp, List.mem_singleton] at h
    subst h
    intro x hx; cases hx
  | x :: l, p, ha, h => by
    have hl : Asc l := fun y hy => ha y (List.mem_cons_of_mem _ hy)
    rw [sp_cons] at h
    split at h
    · rcases List.mem_cons.mp h with h | h
      · subst h
        intro y hy; cases hy
      · exact asc_sp hl h
    · rcases List.mem_cons.mp h with h | h
      · subst h
        have hh : (sp c l).headD [] ∈ sp c l := by
          rw [← hd_tl (sp_ne c l)]
          exact List.mem_cons_self ..
        intro y hy
        rcases List.mem_cons.mp hy with e | e
        · rw [e]; exact ha x (List.mem_cons_self ..)
        · exact asc_sp hl hh y e
      · exact asc_sp hl (List.mem_of_mem_tail h)
/-! ### the law's number -/
def lnumD (o : Option Nat) : D := match o with
  | some n => .int (n : Int)
  | none => .int (-1)
theorem lnum_loop (C : Call) (p : List Nat) (m : Sl) (S : Sto) (hp : Asc p) : ∀ (l : List Nat) (x : Sl), (∀ n ∈ l, n < 1000000) →
    (∃ n, l.find? (fun n => decide (nC n = p)) = some n ∧ forL (s__law_number_l1 C) (l.map fun n : Nat => D.int (n : Int)) [.val (.str (cS p)), m, x] S = .ret (.int (n : Int)) S) ∨
    (l.find? (fun n => decide (nC n = p)) = none ∧ ∃ y, forL (s__law_number_l1 C) (l.map fun n : Nat => D.int (n : Int)) [.val (.str (cS p)), m, x] S = .nx [.val (.str (cS p)), m, y] S)
  | [], x, _ => .inr ⟨rfl, x, rfl⟩
  | n :: l, x, h => by
    have s := str_num n (h n (List.mem_cons_self ..))
    have e := eq_cS (asc_nC n) hp
    by_cases hn : nC n = p
    · refine .inl ⟨n, by simp [hn], ?_⟩
      rw [decide_eq_true hn] at e
      simp only [List.map_cons, forL]
      generalize cS (nC n) = T at *
      generalize cS p = P at *
      simp [s__law_number_l1, s__law_number_l1_b, s, e]
    · rw [decide_eq_false hn] at e
      have f : (n :: l).find? (fun n => decide (nC n = p)) = l.find? fun n => decide (nC n = p) := by simp [hn]
      rw [f]
      have st : s__law_number_l1 C (.int (n : Int)) [.val (.str (cS p)), m, x] S = .nx [.val (.str (cS p)), m, .val (.int (n : Int))] S := by
        generalize cS (nC n) = T at *
        generalize cS p = P at *
        simp [s__law_number_l1, s__law_number_l1_b, s, e]
      have fl : forL (s__law_number_l1 C) ((n :: l).map fun n : Nat => D.int (n : Int)) [.val (.str (cS p)), m, x] S = forL (s__law_number_l1 C) (l.map fun n : Nat => D.int (n : Int)) [.val (.str (cS p)), m, .val (.int (n : Int))] S := by
        simp only [List.map_cons, forL, st]
      rw [fl]
      exact lnum_loop C p m S hp l _ fun k hk => h k (List.mem_cons_of_mem _ hk)
theorem law_number_ok (k : Nat) (p : List Nat) (m : Nat) (S : Sto) (hp : Asc p) (hm : m ≤ 1000000) : callN g (k + 1) "_law_number" [.str (cS p), .int (m : Int)] S = .ok (lnumD (lnum m p)) S := by
  rw [c__law_number]
  have r := rangeA1_nat m S (by omega)
  have re : rng 0 m = (List.range m).map fun n : Nat => D.int (n : Int) := by
    unfold rng
    rw [List.range_eq_range']
  rw [re] at r
  rcases lnum_loop (callN g k) p (.val (.int (m : Int))) S hp (List.range m) .un (fun n hn => by have := List.mem_range.mp hn; omega) with ⟨n, f, lp⟩ | ⟨f, y, lp⟩
  · unfold lnum
    rw [f]
    generalize cS p = P at *
    generalize (List.range m).map (fun n : Nat => D.int (n : Int)) = L at *
    simp [s__law_number, s__law_number_b, r, lp, lnumD]
  · unfold lnum
    rw [f]
    generalize cS p = P at *
    generalize (List.range m).map (fun n : Nat => D.int (n : Int)) = L at *
    simp [s__law_number, s__law_number_b, r, lp, lnumD]
end K29
set_option maxHeartbeats 4000000
namespace K29
open PySem Lw
/-! ### the law's rule -/
theorem in_three (a b c : Int) : cmpD .In (.int (-1)) (.tup [.int a, .int b, .int c]) = some (a == -1 || (b == -1 || c == -1)) := by
  simp [cmpD, inD, D.plain, D.plains, D.py, D.pys, SeqAt.shaped, PyData.canLay0, PyData.canLayAll0, PyData.depth, PyData.depthAll, PyData.eqv]
def optD (o : Option D) : D := match o with
  | some d => d
  | none => .non
theorem law_rule_ok (k : Nat) (p : List Nat) (m : Nat) (S : Sto) (ha : Asc p) (hp : p.length ≤ 16000000) (hm : m ≤ 1000000) : callN g (k + 2) "_law_rule" [.str (cS p), .int (m : Int)] S = .ok (optD ((lruP m p).map encR)) S := by
  rw [c__law_rule]
  have sd := splitD_sp p (c := 46) (by decide) hp
  rw [← w_dot] at sd
  have asc : ∀ q ∈ sp 46 p, Asc q := fun q hq => asc_sp ha hq
  unfold lruP
  split
  · rename_i a b c e
    rw [e] at sd asc
    have n1 := law_number_ok k a 5 S (asc a (by simp)) (by omega)
    have n2 := law_number_ok k b m S (asc b (by simp)) hm
    have n3 := law_number_ok k c m S (asc c (by simp)) hm
    have sd : splitD (cS p) (.str ".") = some (.lst [.str (cS a), .str (cS b), .str (cS c)]) := sd
    have n1 : callN g (k + 1) "_law_number" [.str (cS a), .int 5] S = .ok (lnumD (lnum 5 a)) S := n1
    generalize cS p = P at *
    generalize cS a = A at *
    generalize cS b = B at *
    generalize cS c = Z at *
    cases h1 : lnum 5 a <;> cases h2 : lnum m b <;> cases h3 : lnum m c <;> simp only [h1, h2, h3, lnumD] at n1 n2 n3 <;>
      simp [s__law_rule, s__law_rule_b, sd, n1, n2, n3, in_three, rule3, optD, encR, show 3 ≤ LINE from by decide]
  · rename_i h
    have l3 : (sp 46 p).length ≠ 3 := fun z => by
      match e : sp 46 p, z with
      | [a, b, c], _ => exact h a b c e
    have lz : (strsD (sp 46 p)).length = (sp 46 p).length := by unfold strsD; rw [List.length_map]
    have ne : ((((strsD (sp 46 p)).length : Nat) : Int) == 3) = false := by rw [lz]; simp; omega
    generalize strsD (sp 46 p) = L at *
    simp [s__law_rule, s__law_rule_b, sd, ne, optD]
end K29
set_option maxHeartbeats 4000000
namespace K29
open PySem Lw
/-! ### rules, lines, schemas are read -/
theorem sp_short {c : Nat} {l p : List Nat} (hp : l.length ≤ 16000000) (h : p ∈ sp c l) : p.length ≤ 16000000 := Nat.le_trans (sp_mem h).2 hp
theorem rule_in_ok (k : Nat) (p : List Nat) (S : Sto) (hp : p.length ≤ 16000000) : callN g (k + 2) "rule_in" [.str (cS p)] S = outO S ((ruP p).map encR) := by
  rw [c_rule_in]
  have sd := splitD_sp p (c := 46) (by decide) hp
  rw [← w_dot] at sd
  have lz : (strsD (sp 46 p)).length = (sp 46 p).length := by unfold strsD; rw [List.length_map]
  have l1 := sp_len 46 p
  have cl := compL_allP (step := s_rule_in_c1 (callN g (k + 1)) [.val (.str (cS p)), .val (.lst (strsD (sp 46 p))), .un]) (en := fun q => .str (cS q)) (ed := fun n : Nat => D.int (n : Int)) (f := numP) (c := "BadText") (S := S) (sp 46 p) [] fun q hq => by
    have n := number_in_ok k q S (sp_short hp hq)
    cases h : numP q <;> rw [h] at n <;> simp only [Option.map, outO] at n <;> simp [s_rule_in_c1, s_rule_in_c1_t, s_rule_in_c1_e, n]
  rw [ruP_all]
  have hL : (strsD (sp 46 p)).length ≤ LINE := by rw [lz]; unfold LINE; omega
  have cl : compL (s_rule_in_c1 (callN g (k + 1)) [.val (.str (cS p)), .val (.lst (strsD (sp 46 p))), .un]) (strsD (sp 46 p)) [] S = _ := cl
  by_cases h3 : (sp 46 p).length = 3
  · rw [if_pos h3]
    have ne : ((((strsD (sp 46 p)).length : Nat) : Int) == 3) = true := by rw [lz, h3]; rfl
    cases ha : allP numP (sp 46 p) with
    | none =>
      rw [ha] at cl
      generalize strsD (sp 46 p) = L at *
      simp [s_rule_in, s_rule_in_b, sd, ne, hL, cl, outO]
    | some ns =>
      rw [ha] at cl
      have l3 : ns.length = 3 := by rw [(allP_mem ha).2, h3]
      match ns, l3 with
      | [a, b, c], _ =>
        generalize strsD (sp 46 p) = L at *
        simp [s_rule_in, s_rule_in_b, sd, ne, hL, cl, outO, encR]
  · rw [if_neg h3]
    have ne : ((((strsD (sp 46 p)).length : Nat) : Int) == 3) = false := by rw [lz]; simp; omega
    generalize strsD (sp 46 p) = L at *
    simp [s_rule_in, s_rule_in_b, sd, ne, outO]
theorem strsD_drop (n : Nat) (ls : List (List Nat)) : (strsD ls).drop n = strsD (ls.drop n) := by unfold strsD; rw [List.map_drop]
theorem strsD_take (n : Nat) (ls : List (List Nat)) : (strsD ls).take n = strsD (ls.take n) := by unfold strsD; rw [List.map_take]
theorem cut_from1 (ls : List D) : sliceD (.lst ls) (some 1) none = some (.lst (ls.drop 1)) := by
  cases ls with
  | nil => rfl
  | cons x l =>
    have := cut_from [x] l
    show some (D.lst _) = _
    exact congrArg (fun z => some (D.lst z)) this
theorem cut_to1 (ls : List D) : sliceD (.lst ls) none (some 1) = some (.lst (ls.take 1)) := by
  cases ls with
  | nil => rfl
  | cons x l =>
    have := cut_to [x] l
    show some (D.lst _) = _
    exact congrArg (fun z => some (D.lst z)) this
theorem eq_lst1 {a b : List Nat} (ha : Asc a) (hb : Asc b) : cmpD .Eq (.lst [.str (cS a)]) (.lst [.str (cS b)]) = some (decide (a = b)) := by
  have h1 := ok_cS ha
  have h2 := ok_cS hb
  have e : cS a = cS b ↔ a = b := ⟨cS_inj, fun z => by rw [z]⟩
  simp [cmpD, D.eqv, D.plain, D.plains, D.py, D.pys, SeqAt.shaped, PyData.canLay0, PyData.canLayAll0, PyData.depth, PyData.depthAll, PyData.eqv, PyData.eqvAll, h1, h2, e]
  exact SX.S_beq_eq
theorem asc_end : Asc endW := fun c hc => by
  simp only [endW, List.mem_cons, List.not_mem_nil, or_false] at hc
  omega
theorem ends_eq {ps : List (List Nat)} (h : ∀ q ∈ ps, Asc q) : cmpD .Eq (.lst (strsD (ps.take 1))) (.lst [.str "end"]) = some (endB ps) := by
  cases ps with
  | nil =>
    have : endB [] = false := by kernel_rfl
    rw [this]
    kernel_rfl
  | cons q ps =>
    have e := eq_lst1 (h q (List.mem_cons_self ..)) asc_end
    rw [← w_end] at e
    have e2 : endB (q :: ps) = decide (q = endW) := by unfold endB; simp
    rw [e2]
    exact e
theorem state_in_ok (k : Nat) (l : List Nat) (S : Sto) (hp : l.length ≤ 16000000) (ha : Asc l) : callN g (k + 3) "state_in" [.str (cS l)] S = outO S ((stP l).map encQ) := by
  rw [c_state_in]
  have sd := splitD_sp l (c := 32) (by decide) hp
  rw [← w_sp] at sd
  have c1 := cut_from1 (strsD (sp 32 l))
  rw [strsD_drop, List.drop_one] at c1
  have hq : ∀ q ∈ (sp 32 l).tail, q ∈ sp 32 l := fun q hq => List.mem_of_mem_tail hq
  have sl := sp_len 32 l
  unfold stP
  generalize hps : (sp 32 l).tail = ps at *
  have lps : ps.length ≤ 16000000 := by rw [← hps, List.length_tail]; omega
  have c2 := cut_to1 (strsD ps)
  rw [strsD_take] at c2
  have c3 := cut_from1 (strsD ps)
  rw [strsD_drop] at c3
  have eq := ends_eq (ps := ps) fun q hm => asc_sp ha (hq q hm)
  have main : ∀ (rs : List (List Nat)) (e : Bool), (∀ q ∈ rs, q ∈ ps) → rs.length ≤ 16000000 → (strsD rs).length ≤ LINE ∧ compL (s_state_in_c1 (callN g (k + 2)) [.val (.str (cS l)), .val (.lst (strsD rs)), .val (.bl e), .un]) (strsD rs) [] S = match allP ruP rs with | some ys => .ok (ys.map encR) S | none => .err "BadText" S := fun rs e hrs hlr => by
    refine ⟨by unfold strsD; rw [List.length_map]; unfold LINE; omega, ?_⟩
    refine (compL_allP (step := s_state_in_c1 (callN g (k + 2)) [.val (.str (cS l)), .val (.lst (strsD rs)), .val (.bl e), .un]) (en := fun q => .str (cS q)) (ed := encR) (f := ruP) (c := "BadText") (S := S) rs [] fun q hm => ?_).trans ?_
    · have n := rule_in_ok k q S (sp_short hp (hq q (hrs q hm)))
      cases h : ruP q <;> rw [h] at n <;> simp only [Option.map, outO] at n <;> simp [s_state_in_c1, s_state_in_c1_t, s_state_in_c1_e, n]
    · cases allP ruP rs <;> rfl
  cases he : endB ps with
  | true =>
    rw [he] at eq
    have rp : restP ps = ps.drop 1 := by unfold restP; rw [he]; rfl
    obtain ⟨m1, m2⟩ := main (ps.drop 1) true (fun q hm => List.mem_of_mem_drop hm) (by rw [List.length_drop]; omega)
    rw [rp]
    cases hr : allP ruP (ps.drop 1) with
    | none =>
      rw [hr] at m2
      generalize strsD (ps.drop 1) = L1 at *
      generalize strsD (ps.take 1) = L2 at *
      generalize strsD ps = L3 at *
      simp [s_state_in, s_state_in_b, sd, c1, c2, c3, eq, m1, m2, outO, show 1 ≤ LINE from by decide]
    | some ys =>
      rw [hr] at m2
      generalize strsD (ps.drop 1) = L1 at *
      generalize strsD (ps.take 1) = L2 at *
      generalize strsD ps = L3 at *
      simp [s_state_in, s_state_in_b, sd, c1, c2, c3, eq, m1, m2, outO, encQ, show 1 ≤ LINE from by decide]
  | false =>
    rw [he] at eq
    have rp : restP ps = ps := by unfold restP; rw [he]; rfl
    obtain ⟨m1, m2⟩ := main ps false (fun q hm => hm) lps
    rw [rp]
    cases hr : allP ruP ps with
    | none =>
      rw [hr] at m2
      generalize strsD (ps.drop 1) = L1 at *
      generalize strsD (ps.take 1) = L2 at *
      generalize strsD ps = L3 at *
      simp [s_state_in, s_state_in_b, sd, c1, c2, c3, eq, m1, m2, outO, show 1 ≤ LINE from by decide]
    | some ys =>
      rw [hr] at m2
      generalize strsD (ps.drop 1) = L1 at *
      generalize strsD (ps.take 1) = L2 at *
      generalize strsD ps = L3 at *
      simp [s_state_in, s_state_in_b, sd, c1, c2, c3, eq, m1, m2, outO, encQ, show 1 ≤ LINE from by decide]
end K29
set_option maxHeartbeats 4000000
namespace K29
open PySem Lw
/-! ### read_schema -/
theorem asc_app {a b : List Nat} (ha : Asc a) (hb : Asc b) : Asc (a ++ b) := fun c hc => (List.mem_append.mp hc).elim (ha c) (hb c)
theorem asc_cons {x : Nat} {a : List Nat} (hx : x < 128) (ha : Asc a) : Asc (x :: a) := fun c hc => (List.mem_cons.mp hc).elim (fun e => e ▸ hx) (ha c)
theorem asc_nil : Asc [] := fun c hc => by cases hc
theorem asc_beh {c : Nat} (hc : c < 128) : ∀ {ps : List (List Nat)}, (∀ p ∈ ps, Asc p) → Asc (beh c ps)
  | [], _ => asc_nil
  | p :: ps, h => asc_app (asc_cons hc (h p (List.mem_cons_self ..))) (asc_beh hc fun q hq => h q (List.mem_cons_of_mem _ hq))
theorem asc_ruT (r : Rul) : Asc (ruT r) := asc_app (asc_nC _) (asc_beh (by decide) fun p hp => by
  rcases List.mem_cons.mp hp with e | e
  · subst e; exact asc_nC _
  · rw [List.mem_singleton] at e; subst e; exact asc_nC _)
theorem asc_parts (st : Sta) : ∀ p ∈ parts st, Asc p := fun p hp => by
  rcases List.mem_append.mp hp with z | z
  · split at z
    · rw [List.mem_singleton] at z; subst z; exact asc_end
    · cases z
  · obtain ⟨r, _, rfl⟩ := List.mem_map.mp z
    exact asc_ruT r
theorem asc_liT (q : Nat) (st : Sta) : Asc (liT q st) := asc_app (asc_app (asc_nC q) (asc_cons (by decide) asc_nil)) (asc_beh (by decide) (asc_parts st))
theorem asc_liTs : ∀ {q : Nat} {s : List Sta}, ∀ p ∈ liTs q s, Asc p
  | _, [], p, h => by cases h
  | q, st :: s, p, h => by
    rcases List.mem_cons.mp h with e | e
    · subst e; exact asc_liT q st
    · exact asc_liTs p e
theorem asc_scT (s : List Sta) : Asc (scT s) := by
  cases s with
  | nil => exact asc_nil
  | cons st s =>
    have e : scT (st :: s) = liT 0 st ++ beh 10 (liTs 1 s) := join_beh 10 _ _
    rw [e]
    exact asc_app (asc_liT 0 st) (asc_beh (by decide) asc_liTs)
theorem okN_of {n : Nat} {rs : List Rul} (h : RulesOk n rs) (hn : n ≤ 60) : ∀ r ∈ rs, okN r := fun r hr => by
  obtain ⟨⟨a1, a2⟩, a3, a4⟩ := h.ok r hr
  exact ⟨⟨a1, by omega⟩, by omega, by omega⟩
theorem schT_ok (k : Nat) {s : List Sta} (S : Sto) (h : SchOk s) : callN g (k + 1) "schema_text" [sch s] S = .ok (.str (cS (scT s))) S :=
  schema_text_ok k s S (fun st hst => okN_of (h.rules st hst) h.hi) (by have := h.hi; omega) (by have := h.many; omega)
theorem len_cS (t : List Nat) (h : t.length ≤ 16000000) : callD "len" [.str (cS t)] = some (.int (t.length : Int)) := by
  have e : callD "len" [.str (cS t)] = if (cS t).length ≤ LINE then some (.int ((cS t).length : Int)) else none := rfl
  rw [e, cS_len, if_pos (by unfold LINE; omega)]
theorem m9 : binD .Mult (.int 9) (.int 2060) = some (.int 18540) := by kernel_rfl
open Classical in
theorem read_schema_ok (k : Nat) (t : List Nat) (S : Sto) (hl : t.length ≤ 18540) (ha : Asc t) : callN g (k + 5) "read_schema" [.str (cS t)] S = outO S ((progR t).map sch) := by
  rw [c_read_schema]
  have sd := splitD_sp t (c := 10) (by decide) (by omega)
  rw [← w_nl] at sd
  have len := len_cS t (by omega)
  have b0 : cmpD .Gt (.int (t.length : Int)) (.int 18540) = some false := by
    show some (decide ((18540 : Int) < (t.length : Int))) = _
    rw [decide_eq_false (by omega)]
  have lz : (strsD (sp 10 t)).length = (sp 10 t).length := by unfold strsD; rw [List.length_map]
  have hi : isiD "str" (.str (cS t)) = some true := rfl
  have l1 := sp_len 10 t
  have hL : (strsD (sp 10 t)).length ≤ LINE := by rw [lz]; unfold LINE; omega
  have cl : compL (s_read_schema_c1 (callN g (k + 4)) [.val (.str (cS t)), .val (.lst (strsD (sp 10 t))), .un, .un]) (strsD (sp 10 t)) [] S = match stsP t with | some s => .ok (s.map encQ) S | none => .err "BadText" S := by
    refine (compL_allP (step := s_read_schema_c1 (callN g (k + 4)) [.val (.str (cS t)), .val (.lst (strsD (sp 10 t))), .un, .un]) (en := fun q => .str (cS q)) (ed := encQ) (f := stP) (c := "BadText") (S := S) (sp 10 t) [] fun q hm => ?_).trans ?_
    · have n := state_in_ok (k + 1) q S (sp_short (by omega) hm) (asc_sp ha hm)
      cases h : stP q <;> rw [h] at n <;> simp only [Option.map, outO] at n <;> simp [s_read_schema_c1, s_read_schema_c1_t, s_read_schema_c1_e, n]
    · unfold stsP
      cases allP stP (sp 10 t) <;> rfl
  unfold progR
  by_cases h60 : (sp 10 t).length ≤ 60
  · rw [if_pos h60]
    have b1 : decide ((60 : Int) < (((strsD (sp 10 t)).length : Nat) : Int)) = false := decide_eq_false (by rw [lz]; omega)
    have b2 : ¬ 60 < (strsD (sp 10 t)).length := by rw [lz]; omega
    cases hs : stsP t with
    | none =>
      rw [hs] at cl
      generalize (t.length : Int) = N at *
      generalize cS t = T at *
      generalize strsD (sp 10 t) = L at *
      simp [s_read_schema, s_read_schema_b, m9, sd, len, hi, b0, b1, b2, hL, cl, outO]
    | some s =>
      rw [hs] at cl
      have hlen : s.length = (sp 10 t).length := (allP_mem hs).2
      have lo : 1 ≤ s.length := by
        rw [hlen]
        have := sp_ne 10 t
        cases z : sp 10 t with
        | nil => exact absurd z this
        | cons x l => simp
      have dec := schema_dec k s S lo (by omega)
      unfold sch at dec
      by_cases hok : SchOk s
      · rw [decide_eq_true hok] at dec
        have tx := schT_ok (k + 3) S hok
        unfold sch at tx
        have ne := ne_cS (asc_scT s) ha
        by_cases he : scT s = t
        · rw [decide_eq_true he] at ne
          dsimp only
          rw [if_pos ⟨hok, he⟩]
          generalize (t.length : Int) = N at *
          generalize cS (scT s) = T2 at *
          generalize cS t = T at *
          generalize strsD (sp 10 t) = L at *
          simp [s_read_schema, s_read_schema_b, m9, sd, len, hi, b0, b1, b2, hL, cl, dec, tx, ne, outO, sch]
        · rw [decide_eq_false he] at ne
          dsimp only
          rw [if_neg (fun z => he z.2)]
          generalize (t.length : Int) = N at *
          generalize cS (scT s) = T2 at *
          generalize cS t = T at *
          generalize strsD (sp 10 t) = L at *
          simp [s_read_schema, s_read_schema_b, m9, sd, len, hi, b0, b1, b2, hL, cl, dec, tx, ne, outO]
      · rw [decide_eq_false hok] at dec
        dsimp only
        rw [if_neg (fun z => hok z.1)]
        generalize (t.length : Int) = N at *
        generalize cS t = T at *
        generalize strsD (sp 10 t) = L at *
        simp [s_read_schema, s_read_schema_b, m9, sd, len, hi, b0, b1, b2, hL, cl, dec, outO]
  · rw [if_neg h60]
    have b1 : decide ((60 : Int) < (((strsD (sp 10 t)).length : Nat) : Int)) = true := decide_eq_true (by rw [lz]; omega)
    have b2 : 60 < (strsD (sp 10 t)).length := by rw [lz]; omega
    generalize (t.length : Int) = N at *
    generalize cS t = T at *
    generalize strsD (sp 10 t) = L at *
    simp [s_read_schema, s_read_schema_b, m9, sd, len, hi, b0, b1, b2, outO]
theorem written_ok (k : Nat) {s : List Sta} (S : Sto) (h : SchOk s) : callN g (k + 6) "written_schema" [sch s] S = .ok (.str (cS (scT s))) S := by
  have q := check_schema_ok k s S h
  have t := schT_ok (k + 4) S h
  rw [c_written_schema]
  generalize sch s = D at *
  simp [s_written_schema, s_written_schema_b, q, t]
end K29
set_option maxHeartbeats 8000000
namespace K29
open PySem Lw
/-! ### the law's text of a schema -/
theorem joinL_nil : ∀ ls : List (List Nat), TL.joinL [] ls = ls.flatten
  | [] => rfl
  | [l] => by simp [TL.joinL]
  | l :: m :: ls => by
    show l ++ ([] ++ TL.joinL [] (m :: ls)) = _
    rw [joinL_nil (m :: ls)]
    simp
theorem join_no (ls : List (List Nat)) (h : (ls.map List.length).sum ≤ 16777216) : joinD "" (.lst (strsD ls)) = some (.str (cS ls.flatten)) := by
  show joinS "" (strsD ls) = _
  unfold joinS
  rw [strsOf_D, Option.bind_some, sum_len, List.length_map, if_pos (by rw [w_no, cS_len, List.length_nil]; omega), w_no]
  have := SX.join_S [] ls
  rw [joinL_nil] at this
  exact congrArg (fun z => some (D.str z)) this
theorem rulT_flat : ∀ rs : List Rul, (rs.map fun r => 32 :: ruT r).flatten = rulT rs
  | [] => rfl
  | r :: rs => by
    rw [List.map_cons, List.flatten_cons, rulT_flat rs, rulT_cons]
theorem compL_all {α : Type} {step : D → Sto → R (Option D)} {S : Sto} {en : α → D} {f : α → D} : ∀ (l : List α) (acc : List D), (∀ x ∈ l, step (en x) S = .ok (some (f x)) S) → compL step (l.map en) acc S = .ok (acc ++ l.map f) S
  | [], acc, _ => by simp [compL]
  | x :: l, acc, h => by
    have ih := compL_all (f := f) l (acc ++ [f x]) fun u hu => h u (List.mem_cons_of_mem _ hu)
    simp [compL, h x (List.mem_cons_self ..), ih]
theorem ltext_c1 (C : Call) (S : Sto) (a0 a1 a2 a3 a4 a5 a6 : Sl) {r : Rul} (h : okN r) : s__law_text_c1 C [a0, a1, a2, a3, a4, a5, a6] (encR r) S = .ok (some (.str (cS (32 :: ruT r)))) S := by
  obtain ⟨a, x, y⟩ := r
  obtain ⟨⟨g1, g2⟩, g3, g4⟩ := h
  obtain ⟨n, rfl⟩ : ∃ n : Nat, a = (n : Int) := ⟨a.toNat, by have : 0 ≤ a := g1; omega⟩
  obtain ⟨b1, b2, b3, b4, s1, s2, s3, t1, t2, t3, t4, t5, vv⟩ := rule_text n x y (by have : (n : Int) < 1000 := g2; omega) g3 g4
  have v1 := fun S => (vv S).1
  have v2 := fun S => (vv S).2.1
  have v3 := fun S => (vv S).2.2.1
  have v4 := fun S => (vv S).2.2.2
  generalize (32 :: ruT ((n : Int), x, y)) = R at *
  simp [s__law_text_c1, s__law_text_c1_t, s__law_text_c1_e, encR, s1, s2, s3, t1, t2, t3, t4, t5, v1, v2, v3, v4]
theorem ltext_l1 (C : Call) (S : Sto) (s : List Sta) (h : ∀ st ∈ s, ∀ r ∈ st.2, okN r) (h2 : ∀ st ∈ s, st.2.length ≤ 200000) (hs : s.length ≤ 100000) : ∀ (r p : List Sta) (acc : List D) (x2 x3 x4 x5 x6 : Sl), s = p ++ r → acc.length = p.length →
    ∃ y2 y3 y4 y5 y6, forL (s__law_text_l1 C) (rng p.length r.length) [.val (sch s), .own acc, x2, x3, x4, x5, x6] S = .nx [.val (sch s), .own (acc ++ strsD (liTs p.length r)), y2, y3, y4, y5, y6] S
  | [], p, acc, x2, x3, x4, x5, x6, _, _ => ⟨x2, x3, x4, x5, x6, by rw [show acc ++ strsD (liTs p.length []) = acc from List.append_nil acc]; rfl⟩
  | st :: r, p, acc, x2, x3, x4, x5, x6, e, ha => by
    have hst : st ∈ s := by rw [e]; simp
    have hr := h st hst
    have hl := h2 st hst
    have hp : p.length < s.length := by rw [e]; simp
    have it : itemD (sch s) (.int (p.length : Int)) = some (encQ st) := it_nat (by rw [e]; simp)
    have lb := liT_bound (q := p.length) (by omega) hr
    obtain ⟨b, rs⟩ := st
    have hr : ∀ r ∈ rs, okN r := hr
    have hl : rs.length ≤ 200000 := hl
    have l1 := nC_len (n := p.length) (by omega)
    have l2 := rulT_len hr
    have sq := str_num p.length (by omega)
    have bq : binD .Add (.str (cS (nC p.length))) (.str ":") = some (.str (cS (nC p.length ++ [58]))) := by rw [w_col]; exact bn_cS _ _ (by simp; omega)
    have bl : acc.length < LINE := by rw [ha]; unfold LINE; omega
    have cl : ∀ a0 a1 a2 a3 a4 a5 a6 : Sl, compL (s__law_text_c1 C [a0, a1, a2, a3, a4, a5, a6]) (rs.map encR) [] S = .ok (strsD (rs.map fun r => 32 :: ruT r)) S := fun a0 a1 a2 a3 a4 a5 a6 => by
      refine (compL_all (step := s__law_text_c1 C [a0, a1, a2, a3, a4, a5, a6]) (en := encR) (f := fun r => .str (cS (32 :: ruT r))) rs [] fun r hm => ltext_c1 C S a0 a1 a2 a3 a4 a5 a6 (hr r hm)).trans ?_
      rw [List.nil_append]
      unfold strsD
      rw [List.map_map]
      rfl
    have jn : joinD "" (.lst (strsD (rs.map fun r => 32 :: ruT r))) = some (.str (cS (rulT rs))) := by
      rw [join_no _ ?_, rulT_flat]
      have : ∀ rs : List Rul, ((rs.map fun r => 32 :: ruT r).map List.length).sum = (rulT rs).length := fun rs => by
        rw [← rulT_flat, List.length_flatten]
      rw [this]; omega
    have hL : (rs.map encR).length ≤ LINE := by rw [List.length_map]; unfold LINE; omega
    have e2 : acc ++ strsD (liTs p.length ((b, rs) :: r)) = acc ++ [D.str (cS (liT p.length (b, rs)))] ++ strsD (liTs (p.length + 1) r) := by simp [strsD, liTs]
    cases b with
    | true =>
      obtain ⟨y2, y3, y4, y5, y6, ih⟩ := ltext_l1 C S s h h2 hs r (p ++ [(true, rs)]) (acc ++ [D.str (cS (liT p.length (true, rs)))]) (.val (.int (p.length : Int))) (.val (.str (cS (nC p.length ++ [58] ++ 32 :: endW)))) x4 x5 x6 (by rw [e]; simp) (by simp [ha])
      rw [List.length_append, List.length_singleton] at ih
      refine ⟨y2, y3, y4, y5, y6, ?_⟩
      rw [e2, ← ih]
      have be : binD .Add (.str (cS (nC p.length ++ [58]))) (.str " end") = some (.str (cS (nC p.length ++ [58] ++ 32 :: endW))) := by rw [w_send]; exact bn_cS _ _ (by simp [endW]; omega)
      have bf : binD .Add (.str (cS (nC p.length ++ [58] ++ 32 :: endW))) (.str (cS (rulT rs))) = some (.str (cS (liT p.length (true, rs)))) := by
        rw [bn_cS _ _ (by simp [endW]; omega), liT_eq]
        simp
      rw [List.length_cons, rng_s]
      have stp : s__law_text_l1 C (.int (p.length : Int)) [.val (sch s), .own acc, x2, x3, x4, x5, x6] S = .nx [.val (sch s), .own (acc ++ [D.str (cS (liT p.length (true, rs)))]), .val (.int (p.length : Int)), .val (.str (cS (nC p.length ++ [58] ++ 32 :: endW))), x4, x5, x6] S := by
        generalize s.map encQ = SC at *
        generalize strsD (rs.map fun r => 32 :: ruT r) = JJ at *
        generalize liT p.length (true, rs) = LT at *
        generalize rulT rs = RT at *
        generalize nC p.length ++ [58] ++ 32 :: endW = P2 at *
        generalize nC p.length ++ [58] = P1 at *
        simp [s__law_text_l1, s__law_text_l1_b, encQ, it, sq, bq, be, bf, cl, jn, bl, hL, show rs.length ≤ LINE from by unfold LINE; omega]
      simp only [forL, stp]
    | false =>
      obtain ⟨y2, y3, y4, y5, y6, ih⟩ := ltext_l1 C S s h h2 hs r (p ++ [(false, rs)]) (acc ++ [D.str (cS (liT p.length (false, rs)))]) (.val (.int (p.length : Int))) (.val (.str (cS (nC p.length ++ [58])))) x4 x5 x6 (by rw [e]; simp) (by simp [ha])
      rw [List.length_append, List.length_singleton] at ih
      refine ⟨y2, y3, y4, y5, y6, ?_⟩
      rw [e2, ← ih]
      have be : binD .Add (.str (cS (nC p.length ++ [58]))) (.str "") = some (.str (cS (nC p.length ++ [58]))) := by
        rw [w_no]
        have := bn_cS (nC p.length ++ [58]) [] (by simp; omega)
        rw [List.append_nil] at this
        exact this
      have bf : binD .Add (.str (cS (nC p.length ++ [58]))) (.str (cS (rulT rs))) = some (.str (cS (liT p.length (false, rs)))) := by
        rw [bn_cS _ _ (by simp; omega), liT_eq]
        simp
      rw [List.length_cons, rng_s]
      have stp : s__law_text_l1 C (.int (p.length : Int)) [.val (sch s), .own acc, x2, x3, x4, x5, x6] S = .nx [.val (sch s), .own (acc ++ [D.str (cS (liT p.length (false, rs)))]), .val (.int (p.length : Int)), .val (.str (cS (nC p.length ++ [58]))), x4, x5, x6] S := by
        generalize s.map encQ = SC at *
        generalize strsD (rs.map fun r => 32 :: ruT r) = JJ at *
        generalize liT p.length (false, rs) = LT at *
        generalize rulT rs = RT at *
        generalize nC p.length ++ [58] = P1 at *
        simp [s__law_text_l1, s__law_text_l1_b, encQ, it, sq, bq, be, bf, cl, jn, bl, hL, show rs.length ≤ LINE from by unfold LINE; omega]
      simp only [forL, stp]
theorem law_text_ok (k : Nat) (s : List Sta) (S : Sto) (h : ∀ st ∈ s, ∀ r ∈ st.2, okN r) (hs : s.length ≤ 1000) (hr : rulesN s ≤ 200000) : callN g (k + 1) "_law_text" [sch s] S = .ok (.str (cS (scT s))) S := by
  rw [c__law_text]
  obtain ⟨y2, y3, y4, y5, y6, lp⟩ := ltext_l1 (callN g k) S s h (fun st hst => by have := rulesN_mem hst; omega) (by omega) s [] [] .un .un .un .un .un rfl rfl
  rw [List.nil_append] at lp
  have lp : forL (s__law_text_l1 (callN g k)) (rng 0 s.length) [.val (sch s), .own [], .un, .un, .un, .un, .un] S = _ := lp
  have jn := join_scT h hs (by omega)
  have r := rangeA1_nat s.length S (by omega)
  have jn : joinD "\n" (.lst (strsD (liTs ([] : List Sta).length s))) = some (.str (cS (scT s))) := jn
  generalize strsD (liTs ([] : List Sta).length s) = L at *
  generalize scT s = T at *
  simp [s__law_text, s__law_text_b, r, lp, jn]
end K29
set_option maxHeartbeats 8000000
namespace K29
open PySem Lw
/-! ### the law reads -/
theorem cp_ge_R (r p : Rul) : cmpD .GtE (encR r) (encR p) = some (!decide (ltR r p)) := by
  obtain ⟨r1, r2, r3⟩ := r
  obtain ⟨p1, p2, p3⟩ := p
  simp only [encR, cmpD, intsOf, Option.map_some, Option.bind_some, geInts, List.length_cons, List.length_nil]
  congr 1
  simp only [show min (0 + 1 + 1 + 1) (0 + 1 + 1 + 1) = 3 from rfl, Ob.lexAt, List.getD_cons_zero, List.getD_cons_succ]
  split
  · rename_i h1
    rw [decide_eq_true_eq] at h1
    split
    · rename_i h2
      rw [decide_eq_true_eq] at h2
      split
      · rename_i h3
        rw [decide_eq_true_eq] at h3
        exact dec_not (by unfold ltR; dsimp only; omega)
      · rename_i h3
        rw [decide_eq_true_eq] at h3
        exact dec_not (by unfold ltR; dsimp only; omega)
    · rename_i h2
      rw [decide_eq_true_eq] at h2
      exact dec_not (by unfold ltR; dsimp only; omega)
  · rename_i h1
    rw [decide_eq_true_eq] at h1
    exact dec_not (by unfold ltR; dsimp only; omega)
theorem range_1n (n : Nat) (S : Sto) (h : n ≤ 1000000) : rangeA2 [.int 1, .int (n : Int)] S = .ok (rng 1 (n - 1)) S := by
  have e : rangeD 1 (n : Int) = some (rng 1 (n - 1)) := by
    unfold rangeD
    rw [if_pos (by unfold LINE; omega)]
    congr 1
    have e2 : ((n : Int) - 1).toNat = n - 1 := by omega
    rw [e2]
    apply List.ext_getElem
    · simp [rng]
    · intro i h1 h2
      simp [rng]
  show R.opt (rangeD 1 (n : Int)) S = _
  rw [e]; rfl
def ruD (o : Option Rul) : D := optD (o.map encR)
theorem plain_ruD (o : Option Rul) : (ruD o).plain = true ∧ (ruD o).py.canLay0 = true := by
  cases o with
  | none => exact ⟨rfl, rfl⟩
  | some r => exact ⟨rfl, rfl⟩
theorem plains_ruD : ∀ os : List (Option Rul), D.plains (os.map ruD) = true ∧ PyData.canLayAll0 (D.pys (os.map ruD)) = true
  | [] => ⟨rfl, rfl⟩
  | o :: os => by
    obtain ⟨h1, h2⟩ := plain_ruD o
    obtain ⟨h3, h4⟩ := plains_ruD os
    exact ⟨by simp [D.plains, h1, h3], by simp [D.pys, PyData.canLayAll0, h2, h4]⟩
theorem any_none : ∀ os : List (Option Rul), ((D.pys (os.map ruD)).any fun z => PyData.eqv z .none) = decide (none ∈ os)
  | [] => rfl
  | none :: os => by simp [D.pys, ruD, optD, D.py, PyData.eqv]
  | some r :: os => by
    have ih := any_none os
    have e : PyData.eqv (ruD (some r)).py .none = false := rfl
    simp only [List.map_cons, D.pys, List.any_cons, e, Bool.false_or, ih]
    simp
theorem in_none (os : List (Option Rul)) : cmpD .In .non (.lst (os.map ruD)) = some (decide (none ∈ os)) := by
  obtain ⟨h1, h2⟩ := plains_ruD os
  have h3 := any_none os
  simp only [cmpD, inD, D.plain, h1, h2, show SeqAt.shaped D.non.py = true from rfl, Bool.and_self, if_true]
  exact congrArg some h3
theorem gdx {rs : List Rul} {i : Nat} {d : Rul} (h : i < rs.length) : rs.getD i d = rs[i] := by rw [List.getD_eq_getElem?_getD, List.getElem?_eq_getElem h]; rfl
theorem ne_nilL {l : List D} (p : D.plains l = true) (s : SeqAt.shaped (D.lst l).py = true) : cmpD .NotEq (.lst l) (.lst []) = some (!l.isEmpty) := by
  cases l with
  | nil => rfl
  | cons x l =>
    have e : D.eqv (.lst (x :: l)) (.lst []) = some false := by
      unfold D.eqv
      have p1 : (D.lst (x :: l)).plain = true := p
      rw [p1, s]
      rfl
    show (D.eqv (.lst (x :: l)) (.lst [])).map (!·) = _
    rw [e]
    rfl
theorem pl_ints : ∀ ns : List Nat, D.plains (ns.map fun n : Nat => D.int (n : Int)) = true ∧ PyData.canLayAll0 (D.pys (ns.map fun n : Nat => D.int (n : Int))) = true ∧ PyData.depthAll (D.pys (ns.map fun n : Nat => D.int (n : Int))) = 0
  | [] => ⟨rfl, rfl, rfl⟩
  | n :: ns => by
    obtain ⟨h1, h2, h3⟩ := pl_ints ns
    exact ⟨by simp [D.plains, D.plain, h1], by simp [D.pys, D.py, PyData.canLayAll0, PyData.canLay0, h2], by simp [D.pys, D.py, PyData.depthAll, PyData.depth, h3]⟩
theorem sh_ints (ns : List Nat) : SeqAt.shaped (D.lst (ns.map fun n : Nat => D.int (n : Int))).py = true := by
  obtain ⟨h1, h2, h3⟩ := pl_ints ns
  have e : (D.lst (ns.map fun n : Nat => D.int (n : Int))).py = .list (D.pys (ns.map fun n : Nat => D.int (n : Int))) := rfl
  rw [e]
  simp [SeqAt.shaped, PyData.canLay0, PyData.depth, h2, h3]
theorem pw_adj : ∀ rs : List Rul, (∀ i, (h : i + 1 < rs.length) → ltR (rs[i]'(by omega)) rs[i + 1]) → rs.Pairwise ltR
  | [], _ => .nil
  | [a], _ => by simp
  | a :: b :: l, h => by
    have ih := pw_adj (b :: l) fun i hi => h (i + 1) (by simpa using hi)
    have h0 : ltR a b := h 0 (by simp)
    refine List.pairwise_cons.mpr ⟨fun c hc => ?_, ih⟩
    rcases List.mem_cons.mp hc with e | e
    · rw [e]; exact h0
    · exact ltR_tr h0 ((List.pairwise_cons.mp ih).1 c e)
/-- the places where the order is broken -/
def brk (rs : List Rul) : List Nat := (List.range' 1 (rs.length - 1)).filter fun q => !decide (ltR (rs.getD (q - 1) noR2) (rs.getD q noR2))
where noR2 : Rul := (0, 0, 0)
theorem brk_nil (rs : List Rul) : brk rs = [] ↔ rs.Pairwise ltR := by
  unfold brk
  rw [List.filter_eq_nil_iff]
  constructor
  · intro h
    refine pw_adj rs fun i hi => ?_
    have := h (i + 1) (by rw [List.mem_range'_1]; omega)
    simp only [Nat.add_sub_cancel, Bool.not_eq_true', decide_eq_false_iff_not, Decidable.not_not] at this
    rw [gdx (by omega), gdx hi] at this
    exact this
  · intro h q hq
    rw [List.mem_range'_1] at hq
    have := List.pairwise_iff_getElem.mp h (q - 1) q (by omega) (by omega) (by omega)
    simp only [Bool.not_eq_true', decide_eq_false_iff_not, Decidable.not_not]
    rw [gdx (by omega), gdx (by omega)]
    exact this
theorem lread_c2 (C : Call) (S : Sto) (a0 a1 a2 a3 a4 a5 a6 a8 a9 : Sl) (rs : List Rul) : compL (s__law_read_c2 C [a0, a1, a2, a3, a4, a5, a6, .val (.lst (rs.map encR)), a8, a9]) (rng 1 (rs.length - 1)) [] S = .ok ((brk rs).map fun n : Nat => D.int (n : Int)) S := by
  have e : rng 1 (rs.length - 1) = (List.range' 1 (rs.length - 1)).map fun n : Nat => D.int (n : Int) := rfl
  rw [e]
  refine compL_filter (f := fun q : Nat => D.int (q : Int)) (List.range' 1 (rs.length - 1)) [] fun q hq => ?_
  rw [List.mem_range'_1] at hq
  obtain ⟨j, rfl⟩ : ∃ j, q = j + 1 := ⟨q - 1, by omega⟩
  have hj : j + 1 < rs.length := by omega
  have i1 : itemD (.lst (rs.map encR)) (.int (((j + 1 : Nat) : Int))) = some (encR rs[j + 1]) := itl_nat (by rw [List.getElem?_map, List.getElem?_eq_getElem hj]; rfl)
  have i2 : itemD (.lst (rs.map encR)) (.int (j : Int)) = some (encR (rs[j]'(by omega))) := itl_nat (by rw [List.getElem?_map, List.getElem?_eq_getElem (by omega)]; rfl)
  have c := cp_ge_R (rs[j]'(by omega)) rs[j + 1]
  have g1 : rs.getD (j + 1 - 1) brk.noR2 = rs[j]'(by omega) := by rw [Nat.add_sub_cancel, gdx (by omega)]
  have g2 : rs.getD (j + 1) brk.noR2 = rs[j + 1] := gdx hj
  rw [g1, g2]
  have b : binD .Sub (.int ((j + 1 : Nat) : Int)) (.int 1) = some (.int (j : Int)) := by
    show some (D.int (((j + 1 : Nat) : Int) - 1)) = _
    congr 2
    omega
  push_cast at i1 b ⊢
  have v1 : ∀ (r : Rul) S, view S (encR r) = encR r := fun r S => rfl
  generalize rs[j + 1] = R1 at *
  generalize rs[j]'(by omega) = R0 at *
  generalize rs.map encR = L at *
  cases h : decide (ltR R0 R1) <;> rw [h] at c <;> simp [s__law_read_c2, s__law_read_c2_t, s__law_read_c2_e, i1, i2, b, v1, c]
theorem all_some : ∀ {os : List (Option Rul)}, none ∉ os → ∃ rs : List Rul, os = rs.map some
  | [], _ => ⟨[], rfl⟩
  | none :: os, h => absurd (List.mem_cons_self ..) h
  | some r :: os, h => by
    obtain ⟨rs, e⟩ := all_some (os := os) fun z => h (List.mem_cons_of_mem _ z)
    exact ⟨r :: rs, by rw [e]; rfl⟩
theorem allP_none {α β : Type} {f : α → Option β} : ∀ (l : List α), none ∈ l.map f → allP f l = none
  | [], h => by cases h
  | x :: l, h => by
    rw [allP]
    rcases List.mem_cons.mp h with e | e
    · rw [← e]
    · rw [allP_none l e]
      cases f x <;> rfl
theorem allP_some {α β : Type} {f : α → Option β} : ∀ (l : List α) (rs : List β), l.map f = rs.map some → allP f l = some rs
  | [], rs, h => by
    have : rs = [] := List.map_eq_nil_iff.mp h.symm
    rw [this]; rfl
  | x :: l, [], h => by cases h
  | x :: l, r :: rs, h => by
    have h2 := List.cons.inj h
    rw [allP, h2.1, allP_some l rs h2.2]
theorem int_bl (b : Bool) : callD "int" [.bl b] = some (.int (if b then 1 else 0)) := rfl
theorem cut_from0 (ls : List D) : sliceD (.lst ls) (some 0) none = some (.lst ls) := by
  have := cut_from [] ls
  show some (D.lst _) = _
  exact congrArg (fun z => some (D.lst z)) this
theorem lread_step (k : Nat) (S : Sto) (t : List Nat) (l : List Nat) (lines : List D) (acc : List D) (x3 x4 x5 x6 x7 : Sl) (ha : Asc l) (hp : l.length ≤ 16000000) (hm : lines.length ≤ 1000000) (hacc : acc.length < 1000000) (hl : l.length ≤ 100000) :
    ∃ y5 y6 y7, s__law_read_l1 (callN g (k + 2)) (.str (cS l)) [.val (.str (cS t)), .val (.lst lines), .own acc, x3, x4, x5, x6, x7, .un, .un] S =
      match lstP lines.length l with
      | some st => .nx [.val (.str (cS t)), .val (.lst lines), .own (acc ++ [encQ st]), .val (.str (cS l)), x4, y5, y6, y7, .un, .un] S
      | none => .ret .non S := by
  have sd := splitD_sp l (c := 32) (by decide) hp
  rw [← w_sp] at sd
  have c1 := cut_from1 (strsD (sp 32 l))
  rw [strsD_drop, List.drop_one] at c1
  have hq : ∀ q ∈ (sp 32 l).tail, q ∈ sp 32 l := fun q hq => List.mem_of_mem_tail hq
  have sl := sp_len 32 l
  unfold lstP
  generalize hps : (sp 32 l).tail = ps at *
  have lps : ps.length ≤ 16000000 := by rw [← hps, List.length_tail]; omega
  have c2 := cut_to1 (strsD ps)
  rw [strsD_take] at c2
  have eq := ends_eq (ps := ps) fun q hm => asc_sp ha (hq q hm)
  have ib := int_bl (endB ps)
  have c3 : sliceD (.lst (strsD ps)) (some (if endB ps then 1 else 0)) none = some (.lst (strsD (restP ps))) := by
    unfold restP
    cases endB ps with
    | true =>
      rw [if_pos rfl, if_pos rfl, cut_from1, strsD_drop]
    | false =>
      rw [if_neg (by decide), if_neg (by decide)]
      exact cut_from0 _
  have hrs : ∀ q ∈ restP ps, q ∈ ps := fun q hq => by
    unfold restP at hq
    split at hq
    · exact List.mem_of_mem_drop hq
    · exact hq
  have lrs : (strsD (restP ps)).length ≤ LINE := by
    unfold strsD restP
    rw [List.length_map]
    unfold LINE
    split
    · rw [List.length_drop]; omega
    · omega
  have cl : compL (s__law_read_c1 (callN g (k + 2)) [.val (.str (cS t)), .val (.lst lines), .own acc, .val (.str (cS l)), x4, .val (.lst (strsD ps)), .val (.bl (endB ps)), x7, .un, .un]) (strsD (restP ps)) [] S = .ok (((restP ps).map (lruP lines.length)).map ruD) S := by
    refine (compL_all (step := s__law_read_c1 (callN g (k + 2)) [.val (.str (cS t)), .val (.lst lines), .own acc, .val (.str (cS l)), x4, .val (.lst (strsD ps)), .val (.bl (endB ps)), x7, .un, .un]) (en := fun q => .str (cS q)) (f := fun q => ruD (lruP lines.length q)) (restP ps) [] fun q hq2 => ?_).trans ?_
    · have n := law_rule_ok k q lines.length S (asc_sp ha (hq q (hrs q hq2))) (sp_short hp (hq q (hrs q hq2))) hm
      have n : callN g (k + 2) "_law_rule" [.str (cS q), .int (lines.length : Int)] S = .ok (ruD (lruP lines.length q)) S := n
      simp [s__law_read_c1, s__law_read_c1_t, s__law_read_c1_e, n]
    · rw [List.nil_append, List.map_map]
      rfl
  have inn := in_none ((restP ps).map (lruP lines.length))
  have lz : (((restP ps).map (lruP lines.length)).map ruD).length = (restP ps).length := by rw [List.length_map, List.length_map]
  by_cases hn : none ∈ (restP ps).map (lruP lines.length)
  · rw [decide_eq_true hn] at inn
    rw [allP_none _ hn]
    refine ⟨.un, .un, .un, ?_⟩
    generalize ((restP ps).map (lruP lines.length)).map ruD = RL at *
    generalize strsD (restP ps) = L1 at *
    generalize strsD (ps.take 1) = L2 at *
    generalize strsD ps = L3 at *
    generalize strsD (sp 32 l) = L4 at *
    generalize cS t = T at *
    generalize cS l = TL at *
    generalize (if endB ps = true then (1 : Int) else 0) = I at *
    generalize endB ps = EB at *
    simp [s__law_read_l1, s__law_read_l1_b, sd, c1, c2, c3, eq, ib, lrs, cl, inn, show 1 ≤ LINE from by decide]
  · rw [decide_eq_false hn] at inn
    obtain ⟨rs, ers⟩ := all_some hn
    rw [allP_some _ _ ers]
    have em : ((restP ps).map (lruP lines.length)).map ruD = rs.map encR := by
      rw [ers, List.map_map]
      rfl
    rw [em] at cl inn
    have lrs2 : rs.length ≤ 100001 := by
      have q1 := congrArg List.length ers
      rw [List.length_map, List.length_map] at q1
      have q : (restP ps).length ≤ ps.length := by
        unfold restP
        split
        · rw [List.length_drop]; omega
        · omega
      have q2 : ps.length ≤ l.length + 1 := by rw [← hps, List.length_tail]; omega
      omega
    have r1 := range_1n rs.length S (by omega)
    have c4 := lread_c2 (callN g (k + 2)) S (.val (.str (cS t))) (.val (.lst lines)) (.own acc) (.val (.str (cS l))) x4 (.val (.lst (strsD ps))) (.val (.bl (endB ps))) .un .un rs
    have ne := ne_nilL (pl_ints (brk rs)).1 (sh_ints (brk rs))
    have rl : (rng 1 (rs.length - 1)).length ≤ LINE := by rw [rng_len]; unfold LINE; omega
    have eb : ((brk rs).map fun n : Nat => D.int (n : Int)).isEmpty = decide (rs.Pairwise ltR) := by
      have q := brk_nil rs
      by_cases h : rs.Pairwise ltR
      · rw [decide_eq_true h, q.mpr h]; rfl
      · rw [decide_eq_false h]
        cases z : brk rs with
        | nil => exact absurd (q.mp z) h
        | cons a b => rfl
    rw [eb] at ne
    have hacc2 : acc.length < LINE := by unfold LINE; omega
    dsimp only
    by_cases h : rs.Pairwise ltR
    · rw [if_pos h]
      rw [decide_eq_true h] at ne
      refine ⟨.val (.lst (strsD ps)), .val (.bl (endB ps)), .val (.lst (rs.map encR)), ?_⟩
      have ee : encQ (endB ps, rs) = .tup [.bl (endB ps), .tup (rs.map encR)] := rfl
      dsimp only
      rw [ee]
      have ln : callD "len" [.lst (rs.map encR)] = some (.int (rs.length : Int)) := by
        show some (D.int (((rs.map encR).length : Nat) : Int)) = _
        rw [List.length_map]
      have tu : callD "tuple" [.lst (rs.map encR)] = some (.tup (rs.map encR)) := rfl
      generalize ((restP ps).map (lruP lines.length)).map ruD = RL at *
      generalize strsD (restP ps) = L1 at *
      generalize strsD (ps.take 1) = L2 at *
      generalize strsD ps = L3 at *
      generalize strsD (sp 32 l) = L4 at *
      generalize cS t = T at *
      generalize cS l = TL at *
      generalize (if endB ps = true then (1 : Int) else 0) = I at *
      generalize endB ps = EB at *
      generalize rng 1 (rs.length - 1) = RG at *
      generalize (rs.length : Int) = RN at *
      generalize (brk rs).map (fun n : Nat => D.int (n : Int)) = BK at *
      generalize rs.map encR = RE at *
      simp [s__law_read_l1, s__law_read_l1_b, sd, c1, c2, c3, eq, ib, lrs, cl, inn, r1, c4, ne, rl, ln, tu, hacc2, show 1 ≤ LINE from by decide, show 2 ≤ LINE from by decide]
    · rw [if_neg h]
      rw [decide_eq_false h] at ne
      refine ⟨.un, .un, .un, ?_⟩
      have ln : callD "len" [.lst (rs.map encR)] = some (.int (rs.length : Int)) := by
        show some (D.int (((rs.map encR).length : Nat) : Int)) = _
        rw [List.length_map]
      generalize ((restP ps).map (lruP lines.length)).map ruD = RL at *
      generalize strsD (restP ps) = L1 at *
      generalize strsD (ps.take 1) = L2 at *
      generalize strsD ps = L3 at *
      generalize strsD (sp 32 l) = L4 at *
      generalize cS t = T at *
      generalize cS l = TL at *
      generalize (if endB ps = true then (1 : Int) else 0) = I at *
      generalize endB ps = EB at *
      generalize rng 1 (rs.length - 1) = RG at *
      generalize (rs.length : Int) = RN at *
      generalize (brk rs).map (fun n : Nat => D.int (n : Int)) = BK at *
      generalize rs.map encR = RE at *
      simp [s__law_read_l1, s__law_read_l1_b, sd, c1, c2, c3, eq, ib, lrs, cl, inn, r1, c4, ne, rl, ln, hacc2, show 1 ≤ LINE from by decide, show 2 ≤ LINE from by decide]
theorem lread_loop (k : Nat) (S : Sto) (t : List Nat) (lines : List D) (hm : lines.length ≤ 1000000) : ∀ (ls : List (List Nat)) (acc : List D) (x3 x4 x5 x6 x7 : Sl), (∀ l ∈ ls, Asc l ∧ l.length ≤ 100000) → acc.length + ls.length < 1000000 →
    ∃ y3 y5 y6 y7, forL (s__law_read_l1 (callN g (k + 2))) (strsD ls) [.val (.str (cS t)), .val (.lst lines), .own acc, x3, x4, x5, x6, x7, .un, .un] S =
      match allP (lstP lines.length) ls with
      | some s => .nx [.val (.str (cS t)), .val (.lst lines), .own (acc ++ s.map encQ), y3, x4, y5, y6, y7, .un, .un] S
      | none => .ret .non S
  | [], acc, x3, x4, x5, x6, x7, _, _ => ⟨x3, x5, x6, x7, by simp [strsD, forL, allP]⟩
  | l :: ls, acc, x3, x4, x5, x6, x7, h, hacc => by
    obtain ⟨h1, h2⟩ := h l (List.mem_cons_self ..)
    rw [List.length_cons] at hacc
    obtain ⟨y5, y6, y7, st⟩ := lread_step k S t l lines acc x3 x4 x5 x6 x7 h1 (by omega) hm (by omega) h2
    have e : strsD (l :: ls) = .str (cS l) :: strsD ls := rfl
    rw [e, allP]
    cases hl : lstP lines.length l with
    | none =>
      rw [hl] at st
      refine ⟨.un, .un, .un, .un, ?_⟩
      simp only [forL, st]
    | some q =>
      rw [hl] at st
      obtain ⟨z3, z5, z6, z7, ih⟩ := lread_loop k S t lines hm ls (acc ++ [encQ q]) (.val (.str (cS l))) x4 y5 y6 y7 (fun m hm => h m (List.mem_cons_of_mem _ hm)) (by rw [List.length_append, List.length_singleton]; omega)
      refine ⟨z3, z5, z6, z7, ?_⟩
      simp only [forL, st]
      rw [ih]
      cases allP (lstP lines.length) ls with
      | none => rfl
      | some s => simp
theorem rulesN_le : ∀ (s : List Sta) (b : Nat), (∀ st ∈ s, st.2.length ≤ b) → rulesN s ≤ s.length * b
  | [], b, _ => Nat.zero_le _
  | st :: s, b, h => by
    have ih := rulesN_le s b fun u hu => h u (List.mem_cons_of_mem _ hu)
    have h1 := h st (List.mem_cons_self ..)
    have e : rulesN (st :: s) = st.2.length + rulesN s := by simp [rulesN]
    rw [e, List.length_cons, Nat.succ_mul]; omega
theorem lstP_len {m : Nat} {l : List Nat} {st : Sta} (h : lstP m l = some st) : st.2.length ≤ l.length + 1 := by
  unfold lstP at h
  split at h
  · rename_i rs e
    split at h
    · cases h
      have q := (allP_mem e).2
      have l1 := sp_len 32 l
      have q2 : (restP (sp 32 l).tail).length ≤ (sp 32 l).tail.length := by
        unfold restP
        split
        · rw [List.length_drop]; omega
        · omega
      rw [List.length_tail] at q2
      show rs.length ≤ _
      omega
    · cases h
  · cases h
theorem law_read_ok (k : Nat) (t : List Nat) (S : Sto) (hl : t.length ≤ 1999) (ha : Asc t) : callN g (k + 3) "_law_read" [.str (cS t)] S = .ok (optD ((lawR t).map sch)) S := by
  rw [c__law_read]
  have sd := splitD_sp t (c := 10) (by decide) (by omega)
  rw [← w_nl] at sd
  have lz : (strsD (sp 10 t)).length = (sp 10 t).length := by unfold strsD; rw [List.length_map]
  have l1 := sp_len 10 t
  obtain ⟨y3, y5, y6, y7, lp⟩ := lread_loop k S t (strsD (sp 10 t)) (by rw [lz]; omega) (sp 10 t) [] .un .un .un .un .un (fun l hm => ⟨asc_sp ha hm, by have := (sp_mem hm).2; omega⟩) (by rw [List.length_nil]; omega)
  rw [lz] at lp
  unfold lawR
  cases hs : allP (lstP (sp 10 t).length) (sp 10 t) with
  | none =>
    rw [hs] at lp
    have lp : forL (s__law_read_l1 (callN g (k + 2))) (strsD (sp 10 t)) [.val (.str (cS t)), .val (.lst (strsD (sp 10 t))), .own [], .un, .un, .un, .un, .un, .un, .un] S = .ret .non S := lp
    generalize cS t = T at *
    generalize strsD (sp 10 t) = L at *
    simp [s__law_read, s__law_read_b, sd, lp, optD]
  | some s =>
    rw [hs] at lp
    have lp : forL (s__law_read_l1 (callN g (k + 2))) (strsD (sp 10 t)) [.val (.str (cS t)), .val (.lst (strsD (sp 10 t))), .own [], .un, .un, .un, .un, .un, .un, .un] S = .nx [.val (.str (cS t)), .val (.lst (strsD (sp 10 t))), .own ([] ++ s.map encQ), y3, .un, y5, y6, y7, .un, .un] S := lp
    rw [List.nil_append] at lp
    obtain ⟨m1, m2⟩ := allP_mem hs
    have hr : ∀ st ∈ s, RulesOk (sp 10 t).length st.2 := fun st hst => by
      obtain ⟨l, _, el⟩ := m1 st hst
      exact lstP_ok el
    by_cases h60 : s.length ≤ 60
    · have b1 : decide ((s.length : Int) ≤ 60) = true := decide_eq_true (by omega)
      have tx := law_text_ok (k + 1) s S (fun st hst => okN_of (hr st hst) (by omega)) (by omega) (by
        have q := rulesN_le s 2001 fun st hst => by
          obtain ⟨l, hl2, el⟩ := m1 st hst
          have q := (sp_mem hl2).2
          have q2 := lstP_len el
          omega
        have q3 : s.length * 2001 ≤ 60 * 2001 := Nat.mul_le_mul_right _ h60
        omega)
      have eq := eq_cS (asc_scT s) ha
      unfold sch at tx
      by_cases he : scT s = t
      · rw [decide_eq_true he] at eq
        dsimp only
        rw [if_pos ⟨h60, he⟩]
        generalize cS (scT s) = T2 at *
        generalize cS t = T at *
        generalize strsD (sp 10 t) = L at *
        simp [s__law_read, s__law_read_b, sd, lp, b1, h60, tx, eq, optD, sch]
      · rw [decide_eq_false he] at eq
        dsimp only
        rw [if_neg (fun z => he z.2)]
        generalize cS (scT s) = T2 at *
        generalize cS t = T at *
        generalize strsD (sp 10 t) = L at *
        simp [s__law_read, s__law_read_b, sd, lp, b1, h60, tx, eq, optD]
    · have b1 : decide ((s.length : Int) ≤ 60) = false := decide_eq_false (by omega)
      dsimp only
      rw [if_neg (fun z => h60 z.1)]
      generalize cS t = T at *
      generalize strsD (sp 10 t) = L at *
      simp [s__law_read, s__law_read_b, sd, lp, b1, h60, optD]
end K29
set_option maxHeartbeats 8000000
namespace K29
open PySem Lw
/-! ### texts' repr -/
theorem char_ok : ∀ q ∈ [34, 39], ∀ c ∈ List.range 128, (Builtin.Str.reprChar q c).all (fun d => decide (d < 1114112)) = true := by decide +kernel
theorem fold_ok {q : Nat} (hq : q ∈ [34, 39]) : ∀ (l : List Nat) (acc : Array Nat), Asc l → acc.all (fun d => decide (d < 1114112)) = true → (l.foldl (fun out c => out ++ (Builtin.Str.reprChar q c).toArray) acc).all (fun d => decide (d < 1114112)) = true
  | [], _, _, h => h
  | c :: l, acc, ha, h => by
    rw [List.foldl_cons]
    refine fold_ok hq l _ (fun d hd => ha d (List.mem_cons_of_mem _ hd)) ?_
    rw [Array.all_append, h, Bool.true_and, List.all_toArray]
    exact char_ok q hq c (List.mem_range.mpr (ha c (List.mem_cons_self ..)))
theorem quote_ok (x : Str) : reprQuote x ∈ [34, 39] := by
  unfold reprQuote
  split <;> simp
theorem repr_cS {t : List Nat} (ha : Asc t) (hl : t.length ≤ 100000) : ∃ x, callD "repr" [.str (cS t)] = some (.str x) ∧ PyData.strOk x = true := by
  have l := StrLaws.reprText_len (cS t) fun c hc => by
    have := ha c hc
    omega
  rw [cS_len] at l
  refine ⟨reprText (cS t), ?_, ?_⟩
  · have e : callD "repr" [.str (cS t)] = (if (reprText (cS t)).length ≤ LINE then some (reprText (cS t)) else none).map .str := rfl
    rw [e, if_pos (by unfold LINE; omega)]
    rfl
  · unfold reprText
    show ((((cS t).cps.foldl (fun out c => out ++ (Builtin.Str.reprChar (reprQuote (cS t)) c).toArray) #[reprQuote (cS t)]).push (reprQuote (cS t)))).all (· < 0x110000) = true
    have q := quote_ok (cS t)
    have q2 : decide (reprQuote (cS t) < 1114112) = true := by
      have : ∀ q ∈ [34, 39], decide (q < 1114112) = true := by decide
      exact this _ q
    rw [Array.all_push, ← Array.foldl_toList]
    have f := fold_ok q t #[reprQuote (cS t)] ha (by simp only [List.all_toArray, List.all_cons, List.all_nil, Bool.and_true]; exact q2)
    refine Bool.and_eq_true_iff.mpr ⟨f, q2⟩
/-! ### told -/
abbrev refT : D := .tup [.str "refused", .str "text"]
abbrev refSc : D := .tup [.str "refused", .str "schema"]
theorem tryH_ret (g : G) (i : Nat) (x f : Str) (h : D → Option D) (d : D) (S : Sto) : tryH g i x f h (.ret d S) = .ret d S := id rfl
theorem sub_t : md.g.sub "BadText" "LeafwardError" = some true := by kernel_rfl
theorem sub_s : md.g.sub "BadSchema" "LeafwardError" = some true := by kernel_rfl
theorem cls_t : md.g.cls "_law_class" "BadText" = some (.str "text") := by kernel_rfl
theorem cls_s : md.g.cls "_law_class" "BadSchema" = some (.str "schema") := by kernel_rfl
theorem try_t (a b c : Sl) (S : Sto) : tryH md.g 2 "LeafwardError" "_law_class" (fun wd => some (.tup [(.str "refused"), wd])) (.err "BadText" [a, b, c] S) = .ret refT S := by
  simp only [tryH, sub_t, cls_t, List.length_cons, List.length_nil]
  rfl
theorem try_s (a b c : Sl) (S : Sto) : tryH md.g 2 "LeafwardError" "_law_class" (fun wd => some (.tup [(.str "refused"), wd])) (.err "BadSchema" [a, b, c] S) = .ret refSc S := by
  simp only [tryH, sub_s, cls_s, List.length_cons, List.length_nil]
  rfl
def toldR (o : Option (List Sta)) : D := match o with
  | some s => sch s
  | none => refT
theorem told_0 (k : Nat) (t : List Nat) (S : Sto) (hl : t.length ≤ 18540) (ha : Asc t) : callN g (k + 6) "_law_told" [.int 0, .str (cS t)] S = .ok (toldR (progR t)) S := by
  have q := read_schema_ok k t S hl ha
  rw [c__law_told]
  cases h : progR t with
  | none =>
    rw [h] at q
    simp only [Option.map, outO] at q
    generalize cS t = T at *
    simp [s__law_told, s__law_told_b, q, try_t, toldR]
  | some s =>
    rw [h] at q
    simp only [Option.map, outO] at q
    unfold toldR
    dsimp only
    generalize sch s = D at *
    generalize cS t = T at *
    simp [s__law_told, s__law_told_b, q, tryH_ret]
theorem told_1 (k : Nat) {s : List Sta} (S : Sto) (h : SchOk s) : callN g (k + 7) "_law_told" [.int 1, sch s] S = .ok (.str (cS (scT s))) S := by
  have q := written_ok k S h
  rw [c__law_told]
  generalize cS (scT s) = T at *
  generalize sch s = D at *
  simp [s__law_told, s__law_told_b, q, tryH_ret]
def RefS (d : D) : Prop := ∀ (k : Nat) (S : Sto), callN g (k + 5) "check_schema" [d] S = .err "BadSchema" S
theorem told_b (k : Nat) (d : D) (S : Sto) (h : RefS d) : callN g (k + 7) "_law_told" [.int 1, d] S = .ok refSc S := by
  have q := h k S
  have w : callN g (k + 6) "written_schema" [d] S = .err "BadSchema" S := by
    rw [c_written_schema]
    simp [s_written_schema, s_written_schema_b, q]
  rw [c__law_told]
  simp [s__law_told, s__law_told_b, w, try_s]
end K29
set_option maxHeartbeats 8000000
namespace K29
open PySem Lw
/-! ### both readers agree -/
theorem num_rules : ∀ rs : List Rul, (∀ r ∈ rs, (0 ≤ r.1 ∧ r.1 ≤ 4) ∧ r.2.1 < 100 ∧ r.2.2 < 100) → numDs (rs.map encR) = true
  | [], _ => rfl
  | p :: l, h => by
    have h1 := h p (List.mem_cons_self ..)
    have ih := num_rules l fun x hx => h x (List.mem_cons_of_mem _ hx)
    simp only [List.map_cons, numDs, ih, encR, numD, Bool.and_true, Bool.and_eq_true, decide_eq_true_eq]
    omega
theorem wt_rules : ∀ rs : List Rul, wtDs (rs.map encR) = 4 * rs.length
  | [] => rfl
  | p :: l => by
    have ih := wt_rules l
    simp only [List.map_cons, wtDs, ih, encR, wtD, List.length_cons]
    omega
theorem num_sch (n : Nat) (hn : n ≤ 60) : ∀ s : List Sta, (∀ st ∈ s, RulesOk n st.2 ∧ st.2.length ≤ 2000) → numDs (s.map encQ) = true ∧ wtDs (s.map encQ) ≤ 8003 * s.length
  | [], _ => ⟨rfl, by simp [wtDs]⟩
  | st :: s, h => by
    obtain ⟨b, rs⟩ := st
    have h1 := h (b, rs) (List.mem_cons_self ..)
    obtain ⟨ih1, ih2⟩ := num_sch n hn s fun x hx => h x (List.mem_cons_of_mem _ hx)
    have a := num_rules rs fun r hr => by
      have := h1.1.ok r hr
      omega
    have w := wt_rules rs
    have h2 := h1.2
    simp only at h2
    refine ⟨by simp [numDs, numD, encQ, a, ih1], ?_⟩
    simp only [List.map_cons, wtDs, encQ, wtD, w, List.length_cons]
    omega
theorem repr_sch {s : List Sta} (hs : SchOk s) (h4 : ∀ st ∈ s, st.2.length ≤ 2000) : ∃ x, callD "repr" [sch s] = some (.str x) ∧ PyData.strOk x = true := by
  have hi := hs.hi
  obtain ⟨a, b⟩ := num_sch s.length hi s fun st hst => ⟨hs.rules st hst, h4 st hst⟩
  refine repr_num a ?_ ?_
  · have : ∀ (l : List Sta), PyData.depthAll (D.pys (l.map encQ)) ≤ 3 := fun l => by
      induction l with
      | nil => simp [D.pys, PyData.depthAll]
      | cons st l ih =>
        obtain ⟨c, rs⟩ := st
        simp only [List.map_cons, D.pys, PyData.depthAll]
        refine Nat.max_le.mpr ⟨?_, ih⟩
        have hr : PyData.depthAll (D.pys (rs.map encR)) ≤ 1 := by
          clear ih h4
          induction rs with
          | nil => simp [D.pys, PyData.depthAll]
          | cons r rs ih2 =>
            simp only [List.map_cons, D.pys, PyData.depthAll]
            exact Nat.max_le.mpr ⟨by simp [encR, D.py, D.pys, PyData.depth, PyData.depthAll], ih2⟩
        simp [encQ, D.py, D.pys, PyData.depth, PyData.depthAll]
        omega
    have := this s
    simp only [D.py, PyData.depth]; omega
  · simp only [wtD]; omega
theorem repr_schB {s : List Sta} (hs : SchOk s) : ∃ x, callD "repr" [sch s] = some (.str x) ∧ PyData.strOk x = true :=
  repr_sch hs fun st hst => Nat.le_trans (rulesN_mem hst) hs.many
theorem repr_refT : ∃ x, callD "repr" [refT] = some (.str x) ∧ PyData.strOk x = true := ⟨"('refused', 'text')", by kernel_rfl, by kernel_rfl⟩
theorem is_sch (s : List Sta) : cmpD .Is (sch s) .non = some false := rfl
theorem agrees_ok (k : Nat) (t : List Nat) (S : Sto) (hl : t.length ≤ 1999) (ha : Asc t) : callN g (k + 7) "_law_agrees" [.str (cS t)] S = .ok (.bl true) S := by
  have r := law_read_ok (k + 3) t S hl ha
  have q := told_0 k t S (by omega) ha
  rw [← same_read t hl] at r
  rw [c__law_agrees]
  cases h : progR t with
  | none =>
    rw [h] at r q
    simp only [Option.map, optD, toldR] at r q
    obtain ⟨x, e1, e2⟩ := repr_refT
    have e3 := cp_str_eq x e2
    generalize cS t = T at *
    simp [s__law_agrees, s__law_agrees_b, r, q, e1, e3]
  | some s =>
    rw [h] at r q
    simp only [Option.map, optD, toldR] at r q
    obtain ⟨x, e1, e2⟩ := repr_schB ((progR_iff t s).mp h).1
    have e3 := cp_str_eq x e2
    have e4 := is_sch s
    have v : ∀ S, view S (sch s) = sch s := fun S => rfl
    generalize sch s = D at *
    generalize cS t = T at *
    simp [s__law_agrees, s__law_agrees_b, r, q, e1, e3, e4, v]
end K29
set_option maxHeartbeats 8000000
namespace K29
open PySem Lw
/-! ### drawing -/
theorem take_c (k : Nat) (m : Int) (hm : 0 < m) (hm2 : m < 1073741824) {S : Sto} (hS : Box S) : ∃ (v : Nat) (S' : Sto), callN g (k + 1) "_law_take" [.ref 0, .int m] S = .ok (.int (v : Int)) S' ∧ (v : Int) < m ∧ Box S' := by
  obtain ⟨v, S', e, h1, h2, hB⟩ := take_ok (callN g k) m hm hm2 hS
  obtain ⟨i, rfl⟩ : ∃ i : Nat, v = i := ⟨v.toNat, by omega⟩
  exact ⟨i, S', by rw [c__law_take]; exact e, h2, hB⟩
theorem pickD (k : Nat) (ds : List D) (S : Sto) (h0 : ds ≠ []) (hl : ds.length < 1000000) (hS : Box S) : ∃ i S', ∃ h : i < ds.length, callN g (k + 2) "_law_pick" [.ref 0, .lst ds] S = .ok ds[i] S' ∧ callN g (k + 2) "_law_pick" [.ref 0, .tup ds] S = .ok ds[i] S' ∧ Box S' := by
  have hp : 0 < ds.length := by cases ds; exact absurd rfl h0; simp
  obtain ⟨i, S', e, h1, hB⟩ := take_c k (ds.length : Int) (by omega) (by omega) hS
  have hi : i < ds.length := by omega
  have t1 : itemD (.lst ds) (.int (i : Int)) = some ds[i] := itl_nat (List.getElem?_eq_getElem hi)
  have t2 : itemD (.tup ds) (.int (i : Int)) = some ds[i] := it_nat (List.getElem?_eq_getElem hi)
  refine ⟨i, S', hi, ?_, ?_, hB⟩
  · rw [c__law_pick]
    simp [s__law_pick, s__law_pick_b, e, t1]
  · rw [c__law_pick]
    simp [s__law_pick, s__law_pick_b, e, t2]
theorem sum_le {α : Type} (f : α → Nat) (b : Nat) : ∀ l : List α, (∀ x ∈ l, f x ≤ b) → (l.map f).sum ≤ l.length * b
  | [], _ => by simp
  | x :: l, h => by
    have h1 := h x (List.mem_cons_self ..)
    have ih := sum_le f b l fun y hy => h y (List.mem_cons_of_mem _ hy)
    rw [List.map_cons, List.sum_cons, List.length_cons, Nat.succ_mul]
    omega
theorem label_ok (k : Nat) (S : Sto) (hS : Box S) : ∃ v S', (0 ≤ v ∧ v ≤ 4) ∧ callN g (k + 3) "_law_label" [.ref 0] S = .ok (.int v) S' ∧ Box S' := by
  obtain ⟨i, S', hi, e, _, hB⟩ := pickD k ([0, 1, 0, 1, 2, 3, 1, 4].map D.int) S (by simp) (by simp) hS
  have hi2 : i < [0, 1, 0, 1, 2, 3, 1, (4 : Int)].length := by simpa using hi
  have ok : ∀ v ∈ [0, 1, 0, 1, 2, 3, 1, (4 : Int)], 0 ≤ v ∧ v ≤ 4 := by decide
  refine ⟨[0, 1, 0, 1, 2, 3, 1, (4 : Int)][i], S', ok _ (List.getElem_mem hi2), ?_, hB⟩
  rw [c__law_label]
  have e : callN g (k + 2) "_law_pick" [.ref 0, .lst [.int 0, .int 1, .int 0, .int 1, .int 2, .int 3, .int 1, .int 4]] S = .ok (.int ([0, 1, 0, 1, 2, 3, 1, (4 : Int)][i])) S' := by
    have e2 := e
    rw [List.getElem_map] at e2
    exact e2
  generalize [0, 1, 0, 1, 2, 3, 1, (4 : Int)][i] = v at *
  simp [s__law_label, s__law_label_b, e]
theorem draw_rules (k n : Nat) (hn : 0 < n) (hn2 : n ≤ 60) (b c e : Sl) : ∀ (m j : Nat) (found : List Rul) (x y : Sl) (S : Sto), Box S → found.Nodup → (∀ r ∈ found, (0 ≤ r.1 ∧ r.1 ≤ 4) ∧ r.2.1 < n ∧ r.2.2 < n) → found.length ≤ j → j + m ≤ 1000 →
    ∃ (found' : List Rul) (x' y' : Sl) (S' : Sto), forL (s__law_schema_l2 (callN g (k + 3))) (rng j m) [.val (.ref 0), b, .val (.int (n : Int)), c, e, .own (found.map encR), x, y] S =
      .nx [.val (.ref 0), b, .val (.int (n : Int)), c, e, .own (found'.map encR), x', y'] S' ∧ Box S' ∧ found'.Nodup ∧ (∀ r ∈ found', (0 ≤ r.1 ∧ r.1 ≤ 4) ∧ r.2.1 < n ∧ r.2.2 < n) ∧ found'.length ≤ j + m
  | 0, j, found, x, y, S, hS, h1, h2, h3, _ => ⟨found, x, y, S, by rw [rng_z]; rfl, hS, h1, h2, by omega⟩
  | m + 1, j, found, x, y, S, hS, h1, h2, h3, h4 => by
    obtain ⟨v, S1, hv, e1, B1⟩ := label_ok k S hS
    obtain ⟨u, S2, e2, hu, B2⟩ := take_c (k + 2) (n : Int) (by omega) (by omega) B1
    obtain ⟨w, S3, e3, hw, B3⟩ := take_c (k + 2) (n : Int) (by omega) (by omega) B2
    have ni := notin_R (v, u, w) found
    by_cases hin : (v, u, w) ∈ found
    · rw [decide_eq_true hin] at ni
      obtain ⟨found', x', y', S', ih, r1, r2, r3, r4⟩ := draw_rules k n hn hn2 b c e m (j + 1) found (.val (.int (j : Int))) (.val (encR (v, u, w))) S3 B3 h1 h2 (by omega) (by omega)
      refine ⟨found', x', y', S', ?_, r1, r2, r3, by omega⟩
      rw [← ih]
      have ni2 : cmpD .NotIn (.tup [.int v, .int (u : Int), .int (w : Int)]) (.lst (found.map encR)) = some false := ni
      simp only [rng_s, forL]
      simp [s__law_schema_l2, s__law_schema_l2_b, e1, e2, e3, ni2, encR]
    · rw [decide_eq_false hin] at ni
      obtain ⟨found', x', y', S', ih, r1, r2, r3, r4⟩ := draw_rules k n hn hn2 b c e m (j + 1) (found ++ [(v, u, w)]) (.val (.int (j : Int))) (.val (encR (v, u, w))) S3 B3 (by
        rw [List.nodup_append]
        refine ⟨h1, by simp, fun a ha b hb => ?_⟩
        rw [List.mem_singleton] at hb
        subst hb
        exact fun z => hin (z ▸ ha)) (fun r hr => by
        rcases List.mem_append.mp hr with z | z
        · exact h2 r z
        · rw [List.mem_singleton] at z
          subst z
          exact ⟨hv, by simp only; omega, by simp only; omega⟩) (by simp; omega) (by omega)
      refine ⟨found', x', y', S', ?_, r1, r2, r3, by omega⟩
      rw [← ih]
      have ni2 : cmpD .NotIn (.tup [.int v, .int (u : Int), .int (w : Int)]) (.lst (found.map encR)) = some true := ni
      have hl : found.length < LINE := by unfold LINE; omega
      simp only [rng_s, forL]
      simp [s__law_schema_l2, s__law_schema_l2_b, e1, e2, e3, ni2, encR, hl]
theorem pickN (k : Nat) (S : Sto) (hS : Box S) : ∃ (v : Nat) (S' : Sto), v ≤ 3 ∧ callN g (k + 2) "_law_pick" [.ref 0, .lst [.int 0, .int 1, .int 1, .int 2, .int 2, .int 3]] S = .ok (.int (v : Int)) S' ∧ Box S' := by
  obtain ⟨i, S', hi, e, _, hB⟩ := pickD k ([0, 1, 1, 2, 2, 3].map fun n : Nat => D.int (n : Int)) S (by simp) (by simp) hS
  have hi2 : i < [0, 1, 1, 2, 2, 3].length := by simpa using hi
  have ok : ∀ v ∈ [0, 1, 1, 2, 2, 3], v ≤ 3 := by decide
  refine ⟨[0, 1, 1, 2, 2, 3][i], S', ok _ (List.getElem_mem hi2), ?_, hB⟩
  rw [List.getElem_map] at e
  exact e
theorem draw_states (k n : Nat) (hn : 0 < n) (hn2 : n ≤ 60) (b : Sl) : ∀ (m j : Nat) (sts : List Sta) (q fd x y : Sl) (S : Sto), Box S → sts.length = j → (∀ st ∈ sts, RulesOk n st.2 ∧ st.2.length ≤ 3) → j + m ≤ 1000 →
    ∃ (sts' : List Sta) (q' fd' x' y' : Sl) (S' : Sto), forL (s__law_schema_l1 (callN g (k + 3))) (rng j m) [.val (.ref 0), b, .val (.int (n : Int)), .own (sts.map encQ), q, fd, x, y] S =
      .nx [.val (.ref 0), b, .val (.int (n : Int)), .own (sts'.map encQ), q', fd', x', y'] S' ∧ Box S' ∧ sts'.length = j + m ∧ (∀ st ∈ sts', RulesOk n st.2 ∧ st.2.length ≤ 3)
  | 0, j, sts, q, fd, x, y, S, hS, h1, h2, _ => ⟨sts, q, fd, x, y, S, by rw [rng_z]; rfl, hS, h1, h2⟩
  | m + 1, j, sts, q, fd, x, y, S, hS, h1, h2, h4 => by
    obtain ⟨v, S1, hv, e1, B1⟩ := pickN (k + 1) S hS
    have r := rangeA1_nat v S1 (by omega)
    obtain ⟨found, x1, y1, S2, e2, B2, f1, f2, f3⟩ := draw_rules k n hn hn2 b (.own (sts.map encQ)) (.val (.int (j : Int))) v 0 [] x y S1 B1 .nil (fun r hr => by cases hr) (by simp) (by omega)
    obtain ⟨w, S3, e3, hw, B3⟩ := take_c (k + 2) 2 (by omega) (by omega) B2
    obtain ⟨sts', q', fd', x', y', S', ih, r1, r2, r3⟩ := draw_states k n hn hn2 b m (j + 1) (sts ++ [(decide (w = 0), srt found)]) (.val (.int (j : Int))) (.own (found.map encR)) x1 y1 S3 B3 (by simp [h1]) (fun st hst => by
      rcases List.mem_append.mp hst with z | z
      · exact h2 st z
      · rw [List.mem_singleton] at z
        subst z
        exact ⟨⟨inc_srt f1, fun r hr => f2 r (mem_srt.mp hr)⟩, by rw [len_srt]; omega⟩) (by omega)
    refine ⟨sts', q', fd', x', y', S', ?_, r1, by omega, r3⟩
    rw [← ih]
    have hl : sts.length < LINE := by unfold LINE; omega
    have b0 : ((w : Int) == 0) = decide (w = 0) := by
      by_cases z : w = 0 <;> simp [z]
    simp only [List.map_nil] at e2
    simp only [rng_s, forL]
    simp [s__law_schema_l1, s__law_schema_l1_b, e1, r, e2, e3, ca_sorted_R, encQ, hl, b0]
/-- a drawn schema -/
structure Drawn (s : List Sta) : Prop where
  ok : SchOk s
  few : ∀ st ∈ s, st.2.length ≤ 3
theorem drawn_of {n : Nat} {s : List Sta} (h1 : s.length = n) (h0 : 1 ≤ n) (h2 : n ≤ 60) (h : ∀ st ∈ s, RulesOk n st.2 ∧ st.2.length ≤ 3) : Drawn s := by
  refine ⟨⟨by omega, by omega, fun st hst => by rw [h1]; exact (h st hst).1, ?_⟩, fun st hst => (h st hst).2⟩
  have z := sum_le (fun st : Sta => st.2.length) 3 s fun st hst => (h st hst).2
  show (s.map fun st => st.2.length).sum ≤ 2000
  omega
theorem draw_schema (k : Nat) (S : Sto) (hS : Box S) : ∃ s S', callN g (k + 4) "_law_schema" [.ref 0, .int 4] S = .ok (sch s) S' ∧ Box S' ∧ Drawn s := by
  rw [c__law_schema]
  obtain ⟨v, S1, e1, hv, B1⟩ := take_c (k + 2) 4 (by omega) (by omega) hS
  have r := rangeA1_nat (1 + v) S1 (by omega)
  obtain ⟨sts, q', fd', x', y', S', e2, B2, f1, f2⟩ := draw_states k (1 + v) (by omega) (by omega) (.val (.int 4)) (1 + v) 0 [] .un .un .un .un S1 B1 rfl (fun st hst => by cases hst) (by omega)
  refine ⟨sts, S', ?_, B2, drawn_of (n := 1 + v) (by omega) (by omega) (by omega) f2⟩
  simp only [List.map_nil] at e2
  push_cast at r e2
  simp [s__law_schema, s__law_schema_b, e1, r, e2]
/-! ### wide ones -/
theorem tupIs_R : ∀ rs : List Rul, tupIs (rs.map encR) = some (rs.map fun r => [r.1, (r.2.1 : Int), (r.2.2 : Int)])
  | [] => rfl
  | r :: rs => by
    rw [List.map_cons, List.map_cons, tupIs.eq_def]
    show (intsD [.int r.1, .int (r.2.1 : Int), .int (r.2.2 : Int)]).bind (fun ns => (tupIs (rs.map encR)).map (ns :: ·)) = _
    rw [tupIs_R rs]
    rfl
def kI (r : Rul) : List Int := [r.1, (r.2.1 : Int), (r.2.2 : Int)]
theorem code_lt {a b : Rul} (ha : (0 ≤ a.1 ∧ a.1 ≤ 4) ∧ a.2.1 < 100 ∧ a.2.2 < 100) (hb : (0 ≤ b.1 ∧ b.1 ≤ 4) ∧ b.2.1 < 100 ∧ b.2.2 < 100) : (codeI (kI a) < codeI (kI b) ↔ ltR a b) ∧ (codeI (kI a) = codeI (kI b) ↔ a = b) := by
  obtain ⟨a1, a2, a3⟩ := a
  obtain ⟨b1, b2, b3⟩ := b
  have e : ∀ x y z : Int, codeI [x, y, z] = x * 16777216 + (y * 4096 + z) := fun x y z => by
    simp [codeI]
  simp only [kI, e, ltR]
  simp only at ha hb
  refine ⟨by omega, ⟨fun h => ?_, fun h => by cases h; rfl⟩⟩
  have h1 : a1 = b1 := by omega
  have h2 : a2 = b2 := by omega
  have h3 : a3 = b3 := by omega
  rw [h1, h2, h3]
theorem setSort_R (n : Nat) (hn : n ≤ 60) (rs : List Rul) (hl : rs.length ≤ 2) (h : ∀ r ∈ rs, (0 ≤ r.1 ∧ r.1 ≤ 4) ∧ r.2.1 < n ∧ r.2.2 < n) : ∃ rs', setSortD (.lst (rs.map encR)) = some (.lst (rs'.map encR)) ∧ RulesOk n rs' ∧ rs'.length ≤ 2 := by
  have hk : ∀ r ∈ rs, (0 ≤ r.1 ∧ r.1 ≤ 4) ∧ r.2.1 < 100 ∧ r.2.2 < 100 := fun r hr => by have := h r hr; omega
  have okk : ∀ l : List Rul, l.length ≤ 2 → l ≠ [] → (∀ r ∈ l, (0 ≤ r.1 ∧ r.1 ≤ 4) ∧ r.2.1 < 100 ∧ r.2.2 < 100) → okKs (l.map kI) = true := fun l l1 l2 l3 => by
    have hd : ((l.map kI).headD [0]).length = 3 := by
      cases l with
      | nil => exact absurd rfl l2
      | cons r l => rfl
    unfold okKs
    rw [hd]
    simp only [Bool.and_eq_true, decide_eq_true_eq, List.all_eq_true]
    refine ⟨⟨by rw [List.length_map]; omega, by decide⟩, fun ks hks => ?_⟩
    obtain ⟨r, hr, rfl⟩ := List.mem_map.mp hks
    refine ⟨rfl, fun i hi => ?_⟩
    have := l3 r hr
    simp only [kI, List.mem_cons, List.not_mem_nil, or_false] at hi
    omega
  have def_ : setSortD (.lst (rs.map encR)) = if okKs (rs.map kI) then some (.lst (((rs.map kI).foldr insU []).map fun k : List Int => D.tup (k.map D.int))) else none := by
    show (match tupIs (rs.map encR) with
      | some ks => if okKs ks then some (D.lst ((ks.foldr insU []).map fun k : List Int => D.tup (k.map D.int))) else none
      | none => none) = _
    rw [tupIs_R]
    rfl
  rw [def_]
  clear def_
  match rs, hl, h, hk with
  | [], _, h, hk => exact ⟨[], by kernel_rfl, ⟨.nil, fun r hr => by cases hr⟩, by simp⟩
  | [a], _, h, hk =>
    rw [if_pos (okk [a] (by simp) (by simp) hk)]
    exact ⟨[a], rfl, ⟨by simp, h⟩, by simp⟩
  | [a, b], _, h, hk =>
    rw [if_pos (okk [a, b] (by simp) (by simp) hk)]
    obtain ⟨q1, q2⟩ := code_lt (hk a (by simp)) (hk b (by simp))
    obtain ⟨q3, q4⟩ := code_lt (hk b (by simp)) (hk a (by simp))
    have f : ([a, b].map kI).foldr insU [] = if codeI (kI a) < codeI (kI b) then [kI a, kI b] else if codeI (kI a) = codeI (kI b) then [kI b] else [kI b, kI a] := by
      show insU (kI a) [kI b] = _
      simp [insU]
    rw [f]
    by_cases c1 : codeI (kI a) < codeI (kI b)
    · rw [if_pos c1]
      exact ⟨[a, b], rfl, ⟨by simp [q1.mp c1], h⟩, by simp⟩
    · rw [if_neg c1]
      by_cases c2 : codeI (kI a) = codeI (kI b)
      · rw [if_pos c2]
        exact ⟨[b], rfl, ⟨by simp, fun r hr => h r (by simp at hr; simp [hr])⟩, by simp⟩
      · rw [if_neg c2]
        exact ⟨[b, a], rfl, ⟨by simp [q3.mp (by omega)], fun r hr => h r (by simp at hr; rcases hr with z | z <;> simp [z])⟩, by simp⟩
theorem wide_rules (k n q : Nat) (hn : 0 < n) (hn2 : n ≤ 60) (x2 x4 : Sl) : ∀ (m j : Nat) (acc : List Rul) (S : Sto), Box S → (∀ r ∈ acc, (0 ≤ r.1 ∧ r.1 ≤ 4) ∧ r.2.1 < n ∧ r.2.2 < n) →
    ∃ (rs : List Rul) (S' : Sto), compL (s__law_wide_c1 (callN g (k + 1)) [.val (.ref 0), .val (.int (n : Int)), x2, .val (.int (q : Int)), x4, .un]) (rng j m) (acc.map encR) S = .ok (rs.map encR) S' ∧ Box S' ∧ (∀ r ∈ rs, (0 ≤ r.1 ∧ r.1 ≤ 4) ∧ r.2.1 < n ∧ r.2.2 < n) ∧ rs.length = acc.length + m
  | 0, j, acc, S, hS, h => ⟨acc, S, by rw [rng_z]; rfl, hS, h, rfl⟩
  | m + 1, j, acc, S, hS, h => by
    obtain ⟨u, S2, e2, hu, B2⟩ := take_c k (n : Int) (by omega) (by omega) hS
    obtain ⟨w, S3, e3, hw, B3⟩ := take_c k (n : Int) (by omega) (by omega) B2
    obtain ⟨rs, S', ih, r1, r2, r3⟩ := wide_rules k n q hn hn2 x2 x4 m (j + 1) (acc ++ [((((q : Int) + (j : Int)) % 5), u, w)]) S3 B3 fun r hr => by
      rcases List.mem_append.mp hr with z | z
      · exact h r z
      · rw [List.mem_singleton] at z
        subst z
        exact ⟨by simp only; omega, by simp only; omega, by simp only; omega⟩
    refine ⟨rs, S', ?_, r1, r2, by rw [r3]; simp; omega⟩
    rw [← ih, rng_s, compL]
    have md : binD .Mod (.int ((q : Int) + (j : Int))) (.int 5) = some (.int (((q : Int) + (j : Int)) % 5)) := bn_mod _ _ (by omega)
    simp [s__law_wide_c1, s__law_wide_c1_t, s__law_wide_c1_e, e2, e3, md, encR, show 3 ≤ LINE from by decide]
theorem wide_states (k n : Nat) (hn : 0 < n) (hn2 : n ≤ 60) : ∀ (m j : Nat) (sts : List Sta) (q fd : Sl) (S : Sto), Box S → sts.length = j → (∀ st ∈ sts, RulesOk n st.2 ∧ st.2.length ≤ 3) → j + m ≤ 1000 →
    ∃ (sts' : List Sta) (q' fd' : Sl) (S' : Sto), forL (s__law_wide_l1 (callN g (k + 1))) (rng j m) [.val (.ref 0), .val (.int (n : Int)), .own (sts.map encQ), q, fd, .un] S =
      .nx [.val (.ref 0), .val (.int (n : Int)), .own (sts'.map encQ), q', fd', .un] S' ∧ Box S' ∧ sts'.length = j + m ∧ (∀ st ∈ sts', RulesOk n st.2 ∧ st.2.length ≤ 3)
  | 0, j, sts, q, fd, S, hS, h1, h2, _ => ⟨sts, q, fd, S, by rw [rng_z]; rfl, hS, h1, h2⟩
  | m + 1, j, sts, q, fd, S, hS, h1, h2, h4 => by
    obtain ⟨v, S1, e1, hv, B1⟩ := take_c k 3 (by omega) (by omega) hS
    have r := rangeA1_nat v S1 (by omega)
    obtain ⟨rs, S2, e2, B2, f1, f2⟩ := wide_rules k n j hn hn2 (.own (sts.map encQ)) fd v 0 [] S1 B1 fun r hr => by cases hr
    have f2 : rs.length = v := by simpa using f2
    obtain ⟨w, S3, e3, hw, B3⟩ := take_c k 2 (by omega) (by omega) B2
    obtain ⟨rs', s1, s2, s3⟩ := setSort_R n hn2 rs (by omega) f1
    obtain ⟨sts', q', fd', S', ih, r1, r2, r3⟩ := wide_states k n hn hn2 m (j + 1) (sts ++ [(decide (w = 0), rs')]) (.val (.int (j : Int))) (.val (.lst (rs.map encR))) S3 B3 (by simp [h1]) (fun st hst => by
      rcases List.mem_append.mp hst with z | z
      · exact h2 st z
      · rw [List.mem_singleton] at z
        subst z
        exact ⟨s2, show rs'.length ≤ 3 by omega⟩) (by omega)
    refine ⟨sts', q', fd', S', ?_, r1, by omega, r3⟩
    rw [← ih]
    have hl : sts.length < LINE := by unfold LINE; omega
    have b0 : ((w : Int) == 0) = decide (w = 0) := by
      by_cases z : w = 0 <;> simp [z]
    have rl : (rng 0 v).length ≤ LINE := by rw [rng_len]; unfold LINE; omega
    have ca : callD "tuple" [.lst (rs'.map encR)] = some (.tup (rs'.map encR)) := rfl
    simp only [List.map_nil] at e2
    simp only [rng_s, forL]
    generalize rng 0 v = RV at *
    generalize rs.map encR = R1 at *
    simp [s__law_wide_l1, s__law_wide_l1_b, e1, r, e2, e3, s1, encQ, hl, b0, rl]
theorem draw_wide (k : Nat) (S : Sto) (hS : Box S) : ∃ s S', callN g (k + 2) "_law_wide" [.ref 0] S = .ok (sch s) S' ∧ Box S' ∧ Drawn s := by
  rw [c__law_wide]
  obtain ⟨v, S1, e1, hv, B1⟩ := take_c k 60 (by omega) (by omega) hS
  have r := rangeA1_nat (1 + v) S1 (by omega)
  obtain ⟨sts, q', fd', S', e2, B2, f1, f2⟩ := wide_states k (1 + v) (by omega) (by omega) (1 + v) 0 [] .un .un S1 B1 rfl (fun st hst => by cases hst) (by omega)
  refine ⟨sts, S', ?_, B2, drawn_of (n := 1 + v) (by omega) (by omega) (by omega) f2⟩
  simp only [List.map_nil] at e2
  push_cast at r e2
  simp [s__law_wide, s__law_wide_b, e1, r, e2]
end K29
set_option maxHeartbeats 8000000
namespace K29
open PySem Lw
/-! ### spoilt texts -/
theorem addS (a b : List Nat) (h : a.length + b.length ≤ 100000) : binD .Add (.str (cS a)) (.str (cS b)) = some (.str (cS (a ++ b))) := by
  have z : LINE = 16777216 := rfl
  rw [bn_str _ _ (by rw [cS_len, cS_len, z]; omega), cS_app]
theorem sl_toS (l : List Nat) (n : Nat) (hz : l.length ≤ 90000) : sliceD (.str (cS l)) none (some (n : Int)) = some (.str (cS (l.take n))) := by
  have z : LINE = 16777216 := rfl
  have e : sliceD (.str (cS l)) none (some (n : Int)) = if (cS l).length ≤ LINE then some (.str (L2.cutS (cS l) none (some (n : Int)))) else none := rfl
  rw [e, if_pos (by rw [cS_len, z]; omega)]
  congr 2
  show Str.mk ((l.drop (HT.sIx (cS l).length 0 none)).take (HT.sIx (cS l).length (cS l).length (some (n : Int)) - HT.sIx (cS l).length 0 none)).toArray = Str.mk (l.take n).toArray
  rw [HT.sIx_none, HT.sIx_nat, cS_len, List.drop_zero, Nat.sub_zero]
  congr 2
  by_cases hn : n ≤ l.length
  · rw [Nat.min_eq_left hn]
  · rw [Nat.min_eq_right (by omega), List.take_of_length_le (Nat.le_refl _), List.take_of_length_le (by omega)]
theorem sl_fromS (l : List Nat) (n : Nat) (hz : l.length ≤ 90000) : sliceD (.str (cS l)) (some (n : Int)) none = some (.str (cS (l.drop n))) := by
  have z : LINE = 16777216 := rfl
  have e : sliceD (.str (cS l)) (some (n : Int)) none = if (cS l).length ≤ LINE then some (.str (L2.cutS (cS l) (some (n : Int)) none)) else none := rfl
  rw [e, if_pos (by rw [cS_len, z]; omega)]
  congr 2
  show Str.mk ((l.drop (HT.sIx (cS l).length 0 (some (n : Int)))).take (HT.sIx (cS l).length (cS l).length none - HT.sIx (cS l).length 0 (some (n : Int)))).toArray = Str.mk (l.drop n).toArray
  rw [HT.sIx_none, HT.sIx_nat, cS_len]
  congr 2
  by_cases hn : n ≤ l.length
  · rw [Nat.min_eq_left hn, List.take_of_length_le (by rw [List.length_drop]; omega)]
  · rw [Nat.min_eq_right (by omega), List.drop_eq_nil_of_le (Nat.le_refl _), List.drop_eq_nil_of_le (show l.length ≤ n by omega), List.take_nil]
theorem sx_nat (len n : Nat) : HT.sIx len len (some (n : Int)) = min n len := by rw [HT.sIx_nat]
theorem cutTo {α : Type} (xs : List α) (n : Nat) : cutD xs none (some (n : Int)) = xs.take n := by
  unfold cutD
  rw [HT.sIx_none, HT.sIx_nat, List.drop_zero, Nat.sub_zero]
  by_cases hn : n ≤ xs.length
  · rw [Nat.min_eq_left hn]
  · rw [Nat.min_eq_right (by omega), List.take_of_length_le (Nat.le_refl _), List.take_of_length_le (by omega)]
theorem cutFrom {α : Type} (xs : List α) (n : Nat) : cutD xs (some (n : Int)) none = xs.drop n := by
  unfold cutD
  rw [HT.sIx_none, HT.sIx_nat]
  by_cases hn : n ≤ xs.length
  · rw [Nat.min_eq_left hn, List.take_of_length_le (by rw [List.length_drop]; omega)]
  · rw [Nat.min_eq_right (by omega), List.drop_eq_nil_of_le (Nat.le_refl _), List.drop_eq_nil_of_le (show xs.length ≤ n by omega), List.take_nil]
theorem cutOne {α : Type} (xs : List α) (n : Nat) (h : n < xs.length) : cutD xs (some (n : Int)) (some ((n : Int) + 1)) = (xs.drop n).take 1 := by
  unfold cutD
  have e : (n : Int) + 1 = ((n + 1 : Nat) : Int) := by omega
  rw [e, HT.sIx_nat, HT.sIx_nat, Nat.min_eq_left (by omega), Nat.min_eq_left (by omega)]
  congr 1
  omega
theorem slL_to (ls : List (List Nat)) (n : Nat) : sliceD (.lst (strsD ls)) none (some (n : Int)) = some (.lst (strsD (ls.take n))) := by
  show some (D.lst (cutD (strsD ls) none (some (n : Int)))) = _
  rw [cutTo, strsD_take]
theorem slL_from (ls : List (List Nat)) (n : Nat) : sliceD (.lst (strsD ls)) (some ((n : Int) + 1)) none = some (.lst (strsD (ls.drop (n + 1)))) := by
  have e : (n : Int) + 1 = ((n + 1 : Nat) : Int) := by omega
  show some (D.lst (cutD (strsD ls) (some ((n : Int) + 1)) none)) = _
  rw [e, cutFrom, strsD_drop]
theorem slL_one (ls : List (List Nat)) (n : Nat) (h : n < ls.length) : sliceD (.lst (strsD ls)) (some (n : Int)) (some ((n : Int) + 1)) = some (.lst (strsD ((ls.drop n).take 1))) := by
  show some (D.lst (cutD (strsD ls) (some (n : Int)) (some ((n : Int) + 1)))) = _
  rw [cutOne _ _ (by unfold strsD; rw [List.length_map]; exact h), strsD_drop, strsD_take]
def sumL (ls : List (List Nat)) : Nat := (ls.map fun l => l.length + 1).sum
theorem sumL_app (a b : List (List Nat)) : sumL (a ++ b) = sumL a + sumL b := by unfold sumL; rw [List.map_append, List.sum_append]
theorem sumL_cons (a : List Nat) (b : List (List Nat)) : sumL (a :: b) = a.length + 1 + sumL b := by simp [sumL]
theorem sp_sum (c : Nat) : ∀ t : List Nat, sumL (sp c t) = t.length + 1
  | [] => rfl
  | x :: t => by
    have ih := sp_sum c t
    rw [sp_cons]
    split
    · rw [sumL_cons, ih, List.length_nil, List.length_cons]; omega
    · rw [sumL_cons]
      have e : sp c t = (sp c t).headD [] :: (sp c t).tail := (hd_tl (sp_ne c t)).symm
      have ih : sumL ((sp c t).headD [] :: (sp c t).tail) = t.length + 1 := by rw [← e]; exact ih
      rw [sumL_cons] at ih
      rw [List.length_cons, List.length_cons]; omega
theorem joinL_len (c : Nat) : ∀ ls : List (List Nat), ls ≠ [] → (TL.joinL [c] ls).length + 1 = sumL ls
  | [], h => absurd rfl h
  | [l], _ => by simp [TL.joinL, sumL]
  | l :: m :: ls, _ => by
    have ih := joinL_len c (m :: ls) (by simp)
    show (l ++ ([c] ++ TL.joinL [c] (m :: ls))).length + 1 = _
    rw [sumL_cons, ← ih]
    simp only [List.length_append, List.length_cons, List.length_nil]
    omega
theorem joinL_asc (c : Nat) (hc : c < 128) : ∀ ls : List (List Nat), (∀ l ∈ ls, Asc l) → Asc (TL.joinL [c] ls)
  | [], _ => asc_nil
  | [l], h => h l (List.mem_cons_self ..)
  | l :: m :: ls, h => by
    show Asc (l ++ ([c] ++ TL.joinL [c] (m :: ls)))
    exact asc_app (h l (List.mem_cons_self ..)) (asc_app (asc_cons hc asc_nil) (joinL_asc c hc (m :: ls) fun x hx => h x (List.mem_cons_of_mem _ hx)))
theorem join_nl (ls : List (List Nat)) (hb : sumL ls ≤ 100000) : joinD "\n" (.lst (strsD ls)) = some (.str (cS (TL.joinL [10] ls))) := by
  show joinS "\n" (strsD ls) = _
  unfold joinS
  have e : ∀ ls : List (List Nat), (ls.map List.length).sum + ls.length = sumL ls := fun ls => by
    induction ls with
    | nil => rfl
    | cons l ls ih => rw [sumL_cons, ← ih, List.map_cons, List.sum_cons, List.length_cons]; omega
  have e := e ls
  rw [strsOf_D, Option.bind_some, sum_len, List.length_map, if_pos (by rw [w_nl, cS_len, List.length_singleton]; omega), w_nl]
  exact congrArg (fun z => some (D.str z)) (SX.join_S [10] ls)
theorem asc_take {t : List Nat} (n : Nat) (h : Asc t) : Asc (t.take n) := fun c hc => h c (List.mem_of_mem_take hc)
theorem asc_drop {t : List Nat} (n : Nat) (h : Asc t) : Asc (t.drop n) := fun c hc => h c (List.mem_of_mem_drop hc)
def signs : List (List Nat) := [[48], [49], [50], [46], [32], [58], [10], [45], [101], [101, 110, 100], [53], [57], [9], [95]]
def tails : List (List Nat) := [[10], [32], [10, 49, 58], [32, 52, 46, 48, 46, 48]]
theorem pick_sign (k : Nat) (S : Sto) (hS : Box S) : ∃ c S', (Asc c ∧ c.length ≤ 6) ∧ callN g (k + 2) "_law_pick" [.ref 0, .lst [.str "0", .str "1", .str "2", .str ".", .str " ", .str ":", .str "\n", .str "-", .str "e", .str "end", .str "5", .str "9", .str "\t", .str "_"]] S = .ok (.str (cS c)) S' ∧ Box S' := by
  obtain ⟨i, S', hi, e, _, hB⟩ := pickD k (strsD signs) S (by simp [strsD, signs]) (by simp [strsD, signs]) hS
  have hi2 : i < signs.length := by simpa [strsD] using hi
  have ok : ∀ v ∈ signs, (∀ c ∈ v, c < 128) ∧ v.length ≤ 6 := by decide
  refine ⟨signs[i], S', ok _ (List.getElem_mem hi2), ?_, hB⟩
  have e0 : strsD signs = [.str "0", .str "1", .str "2", .str ".", .str " ", .str ":", .str "\n", .str "-", .str "e", .str "end", .str "5", .str "9", .str "\t", .str "_"] := by kernel_rfl
  have e1 : (strsD signs)[i]'hi = .str (cS (signs[i]'hi2)) := List.getElem_map (fun l => D.str (cS l)) ..
  rw [e1, e0] at e
  exact e
theorem pick_tail (k : Nat) (S : Sto) (hS : Box S) : ∃ c S', (Asc c ∧ c.length ≤ 6) ∧ callN g (k + 2) "_law_pick" [.ref 0, .lst [.str "\n", .str " ", .str "\n1:", .str " 4.0.0"]] S = .ok (.str (cS c)) S' ∧ Box S' := by
  obtain ⟨i, S', hi, e, _, hB⟩ := pickD k (strsD tails) S (by simp [strsD, tails]) (by simp [strsD, tails]) hS
  have hi2 : i < tails.length := by simpa [strsD] using hi
  have ok : ∀ v ∈ tails, (∀ c ∈ v, c < 128) ∧ v.length ≤ 6 := by decide
  refine ⟨tails[i], S', ok _ (List.getElem_mem hi2), ?_, hB⟩
  have e0 : strsD tails = [.str "\n", .str " ", .str "\n1:", .str " 4.0.0"] := by kernel_rfl
  have e1 : (strsD tails)[i]'hi = .str (cS (tails[i]'hi2)) := List.getElem_map (fun l => D.str (cS l)) ..
  rw [e1, e0] at e
  exact e
theorem sl_from1 (l : List Nat) (n : Nat) (hz : l.length ≤ 90000) : sliceD (.str (cS l)) (some ((n : Int) + 1)) none = some (.str (cS (l.drop (n + 1)))) := by
  have e : (n : Int) + 1 = ((n + 1 : Nat) : Int) := by omega
  rw [e]
  exact sl_fromS l (n + 1) hz
theorem spoilt_ok (k : Nat) (t : List Nat) (S : Sto) (hS : Box S) (hl : t.length ≤ 2000) (ha : Asc t) : ∃ t' S', callN g (k + 3) "_law_spoilt" [.ref 0, .str (cS t)] S = .ok (.str (cS t')) S' ∧ Box S' ∧ Asc t' ∧ t'.length ≤ t.length + 6 := by
  rw [c__law_spoilt]
  have len := len_cS t (by omega)
  obtain ⟨a, S1, e1, h1, B1⟩ := take_c (k + 1) ((t.length : Int) + 1) (by omega) (by omega) hS
  obtain ⟨c, S2, ⟨c1, c2⟩, e2, B2⟩ := pick_sign k S1 B1
  obtain ⟨v, S3, e3, h3, B3⟩ := take_c (k + 1) 5 (by omega) (by omega) B2
  have s1 := sl_toS t a (by omega)
  have s2 := sl_fromS t a (by omega)
  have s3 := sl_from1 t a (by omega)
  have lt : (t.take a).length ≤ a := by rw [List.length_take]; omega
  have lt2 : (t.take a).length ≤ t.length := by rw [List.length_take]; omega
  have ld : (t.drop a).length + (t.take a).length ≤ t.length := by rw [List.length_drop, List.length_take]; omega
  have ld1 : (t.drop (a + 1)).length + (t.take a).length ≤ t.length := by rw [List.length_drop, List.length_take]; omega
  match v, h3 with
  | 0, _ =>
    have b1 := addS (t.take a) (t.drop (a + 1)) (by omega)
    refine ⟨_, S3, ?_, B3, asc_app (asc_take a ha) (asc_drop (a + 1) ha), by rw [List.length_append]; omega⟩
    simp only [show ((0 : Nat) : Int) = 0 from rfl] at e3
    generalize cS (t.take a ++ t.drop (a + 1)) = R at *
    generalize cS (t.take a) = X1 at *
    generalize cS (t.drop (a + 1)) = X2 at *
    generalize cS t = T at *
    generalize cS c = CC at *
    simp [s__law_spoilt, s__law_spoilt_b, s__law_spoilt_r0, s__law_spoilt_r1, s__law_spoilt_r2, s__law_spoilt_r3, len, e1, e2, e3, s1, s3, b1, show 14 ≤ LINE from by decide]
  | 1, _ =>
    have b1 := addS (t.take a) c (by omega)
    have b2 := addS (t.take a ++ c) (t.drop a) (by rw [List.length_append]; omega)
    refine ⟨_, S3, ?_, B3, asc_app (asc_app (asc_take a ha) c1) (asc_drop a ha), by rw [List.length_append, List.length_append]; omega⟩
    simp only [show ((1 : Nat) : Int) = 1 from rfl] at e3
    generalize cS (t.take a ++ c ++ t.drop a) = R at *
    generalize cS (t.take a ++ c) = R0 at *
    generalize cS (t.take a) = X1 at *
    generalize cS (t.drop a) = X2 at *
    generalize cS t = T at *
    generalize cS c = CC at *
    simp [s__law_spoilt, s__law_spoilt_b, s__law_spoilt_r0, s__law_spoilt_r1, s__law_spoilt_r2, s__law_spoilt_r3, s__law_spoilt_r4, len, e1, e2, e3, s1, s2, b1, b2, show 14 ≤ LINE from by decide]
  | 2, _ =>
    have b1 := addS (t.take a) c (by omega)
    have b2 := addS (t.take a ++ c) (t.drop (a + 1)) (by rw [List.length_append]; omega)
    refine ⟨_, S3, ?_, B3, asc_app (asc_app (asc_take a ha) c1) (asc_drop (a + 1) ha), by rw [List.length_append, List.length_append]; omega⟩
    simp only [show ((2 : Nat) : Int) = 2 from rfl] at e3
    generalize cS (t.take a ++ c ++ t.drop (a + 1)) = R at *
    generalize cS (t.take a ++ c) = R0 at *
    generalize cS (t.take a) = X1 at *
    generalize cS (t.drop (a + 1)) = X2 at *
    generalize cS t = T at *
    generalize cS c = CC at *
    simp [s__law_spoilt, s__law_spoilt_b, s__law_spoilt_r0, s__law_spoilt_r1, s__law_spoilt_r2, s__law_spoilt_r3, s__law_spoilt_r4, s__law_spoilt_r5, len, e1, e2, e3, s1, s3, b1, b2, show 14 ≤ LINE from by decide]
  | 3, _ =>
    obtain ⟨d, S4, ⟨d1, d2⟩, e4, B4⟩ := pick_tail k S3 B3
    have b1 := addS t d (by omega)
    refine ⟨_, S4, ?_, B4, asc_app ha d1, by rw [List.length_append]; omega⟩
    simp only [show ((3 : Nat) : Int) = 3 from rfl] at e3
    generalize cS (t ++ d) = R at *
    generalize cS t = T at *
    generalize cS c = CC at *
    generalize cS d = CD at *
    simp [s__law_spoilt, s__law_spoilt_b, s__law_spoilt_r0, s__law_spoilt_r1, s__law_spoilt_r2, s__law_spoilt_r3, s__law_spoilt_r4, s__law_spoilt_r5, s__law_spoilt_r6, len, e1, e2, e3, e4, b1, show 14 ≤ LINE from by decide, show 4 ≤ LINE from by decide]
  | 4, _ =>
    have sd := splitD_sp t (c := 10) (by decide) (by omega)
    rw [← w_nl] at sd
    have lz : (strsD (sp 10 t)).length = (sp 10 t).length := by unfold strsD; rw [List.length_map]
    have l0 : 0 < (sp 10 t).length := by
      have := sp_ne 10 t
      cases z : sp 10 t with
      | nil => exact absurd z this
      | cons x l => simp
    have ll := sp_len 10 t
    obtain ⟨b, S4, e4, h4, B4⟩ := take_c (k + 1) ((sp 10 t).length : Int) (by omega) (by omega) B3
    have hb : b < (sp 10 t).length := by omega
    have q1 := slL_to (sp 10 t) b
    have q2 := slL_from (sp 10 t) b
    have q3 := slL_one (sp 10 t) b hb
    have l1 : ((sp 10 t).take b).length ≤ (sp 10 t).length := by rw [List.length_take]; omega
    have l2 : ((sp 10 t).drop (b + 1)).length ≤ (sp 10 t).length := by rw [List.length_drop]; omega
    have l3 : (((sp 10 t).drop b).take 1).length ≤ 1 := by rw [List.length_take]; omega
    have sL : ∀ ls, (strsD ls).length = ls.length := fun ls => by unfold strsD; rw [List.length_map]
    have b1 := bn_addL (strsD ((sp 10 t).take b)) (strsD ((sp 10 t).drop (b + 1))) (by rw [sL, sL]; unfold LINE; omega)
    have b2 := bn_addL (strsD ((sp 10 t).take b) ++ strsD ((sp 10 t).drop (b + 1))) (strsD (((sp 10 t).drop b).take 1)) (by rw [List.length_append, sL, sL, sL]; unfold LINE; omega)
    have ea : strsD ((sp 10 t).take b) ++ strsD ((sp 10 t).drop (b + 1)) ++ strsD (((sp 10 t).drop b).take 1) = strsD ((sp 10 t).take b ++ (sp 10 t).drop (b + 1) ++ ((sp 10 t).drop b).take 1) := by unfold strsD; rw [List.map_append, List.map_append]
    have hsum : sumL ((sp 10 t).take b ++ (sp 10 t).drop (b + 1) ++ ((sp 10 t).drop b).take 1) = t.length + 1 := by
      rw [← sp_sum 10 t, sumL_app, sumL_app]
      have e5 : sumL (sp 10 t) = sumL ((sp 10 t).take b) + (sumL (((sp 10 t).drop b).take 1) + sumL ((sp 10 t).drop (b + 1))) := by
        have e6 : sp 10 t = (sp 10 t).take b ++ (((sp 10 t).drop b).take 1 ++ (sp 10 t).drop (b + 1)) := by
          have e7 : (sp 10 t).drop (b + 1) = ((sp 10 t).drop b).drop 1 := by rw [List.drop_drop]
          rw [e7, List.take_append_drop, List.take_append_drop]
        have e8 := congrArg sumL e6
        rw [sumL_app, sumL_app] at e8
        exact e8
      omega
    have jn := join_nl ((sp 10 t).take b ++ (sp 10 t).drop (b + 1) ++ ((sp 10 t).drop b).take 1) (by omega)
    rw [ea] at b2
    have ne : (sp 10 t).take b ++ (sp 10 t).drop (b + 1) ++ ((sp 10 t).drop b).take 1 ≠ [] := fun z => by
      rw [z] at hsum
      exact absurd hsum (by simp [sumL])
    have jl := joinL_len 10 _ ne
    refine ⟨_, S4, ?_, B4, joinL_asc 10 (by decide) ((sp 10 t).take b ++ (sp 10 t).drop (b + 1) ++ ((sp 10 t).drop b).take 1) (fun l hm => ?_), by omega⟩
    · simp only [show ((4 : Nat) : Int) = 4 from rfl] at e3
      rw [← lz] at e4
      generalize cS (TL.joinL [10] ((sp 10 t).take b ++ (sp 10 t).drop (b + 1) ++ ((sp 10 t).drop b).take 1)) = R at *
      generalize strsD ((sp 10 t).take b ++ (sp 10 t).drop (b + 1) ++ ((sp 10 t).drop b).take 1) = L5 at *
      generalize strsD ((sp 10 t).take b) = L1 at *
      generalize strsD ((sp 10 t).drop (b + 1)) = L2 at *
      generalize strsD (((sp 10 t).drop b).take 1) = L3 at *
      generalize strsD (sp 10 t) = L0 at *
      generalize cS t = T at *
      generalize cS c = CC at *
      simp [s__law_spoilt, s__law_spoilt_b, s__law_spoilt_r0, s__law_spoilt_r1, s__law_spoilt_r2, s__law_spoilt_r3, s__law_spoilt_r4, s__law_spoilt_r5, s__law_spoilt_r6, s__law_spoilt_r7, s__law_spoilt_r8, s__law_spoilt_r9, len, e1, e2, e3, e4, sd, q1, q2, q3, b1, b2, jn, show 14 ≤ LINE from by decide]
    · have hm2 : l ∈ sp 10 t := by
        rcases List.mem_append.mp hm with z | z
        · rcases List.mem_append.mp z with z | z
          · exact List.mem_of_mem_take z
          · exact List.mem_of_mem_drop z
        · exact List.mem_of_mem_drop (List.mem_of_mem_take z)
      exact asc_sp ha hm2
  | n + 5, h => exact absurd h (by omega)
end K29
set_option maxHeartbeats 16000000
namespace K29
open PySem Lw
/-! ### what is no schema -/
theorem view_id {d : D} (h : d.plain = true) (S : Sto) : view S d = d := by
  cases d <;> first | rfl | (simp [D.plain] at h)
theorem isi_t_non : isiD "tuple" .non = some false := id rfl
theorem isi_t_int (i : Int) : isiD "tuple" (.int i) = some false := id rfl
theorem isi_t_bl (i : Bool) : isiD "tuple" (.bl i) = some false := id rfl
theorem isi_t_str (i : Str) : isiD "tuple" (.str i) = some false := id rfl
theorem whole_no (k : Nat) (a : D) (S : Sto) (hp : a.plain = true) (h : isiD "int" a = some false) : callN g (k + 1) "is_whole" [a] S = .ok (.bl false) S := by
  rw [c_is_whole]
  simp [s_is_whole, s_is_whole_b, view_id hp, h]
theorem whole_bl (k : Nat) (b : Bool) (S : Sto) : callN g (k + 1) "is_whole" [.bl b] S = .ok (.bl false) S := by
  rw [c_is_whole]
  have h1 : isiD "int" (.bl b) = some true := id rfl
  have h2 : isiD "bool" (.bl b) = some true := id rfl
  simp [s_is_whole, s_is_whole_b, h1, h2]
theorem within_lo (k : Nat) (i lo hi : Int) (S : Sto) (h : i < lo ∨ hi < i) : callN g (k + 2) "is_within" [.int i, .int lo, .int hi] S = .ok (.bl false) S := by
  rw [c_is_within]
  by_cases h0 : lo ≤ i
  · have h4 : decide (i ≤ hi) = false := by simp; omega
    simp [s_is_within, s_is_within_b, whole_ok, h0, h4]
  · have h4 : decide (lo ≤ i) = false := by simp; omega
    simp [s_is_within, s_is_within_b, whole_ok, h4]
def lastR : List Rul → Rul → Rul
  | [], p => p
  | r :: rs, _ => lastR rs r
abbrev noR : Rul := (-1, 0, 0)
theorem pre_rules (C : Call) (d : D) (n : Nat) (S : Sto) (hw : ∀ i lo hi : Int, lo ≤ i ∧ i ≤ hi → C "is_within" [.int i, .int lo, .int hi] S = .ok (.bl true) S) (rest : List D) :
    ∀ (rs : List Rul) (p : Rul) (x : Sl), (∀ r ∈ rs, (0 ≤ r.1 ∧ r.1 ≤ 4) ∧ r.2.1 < n ∧ r.2.2 < n) → (p :: rs).Pairwise ltR →
    ∃ x', forL (s_are_rules_l1 C) (rs.map encR ++ rest) [.val d, .val (.int (n : Int)), .val (encR p), x] S = forL (s_are_rules_l1 C) rest [.val d, .val (.int (n : Int)), .val (encR (lastR rs p)), x'] S
  | [], p, x, _, _ => ⟨x, rfl⟩
  | r :: rs, p, x, h1, h2 => by
    obtain ⟨q1, q2⟩ := List.pairwise_cons.mp h2
    obtain ⟨x', ih⟩ := pre_rules C d n S hw rest rs r (.val (encR r)) (fun u hu => h1 u (List.mem_cons_of_mem _ hu)) q2
    refine ⟨x', ?_⟩
    have hl : ltR p r := q1 r (List.mem_cons_self ..)
    have hc := cp_le_R r p
    rw [decide_eq_true hl] at hc
    obtain ⟨⟨a1, a2⟩, a3, a4⟩ := h1 r (List.mem_cons_self ..)
    have e : lastR (r :: rs) p = lastR rs r := rfl
    rw [e, ← ih]
    obtain ⟨a, u, v⟩ := r
    have w1 := hw a 0 4 ⟨a1, a2⟩
    have w2 := hw (u : Int) 0 ((n : Int) - 1) ⟨by omega, by simp only at a3; omega⟩
    have w3 := hw (v : Int) 0 ((n : Int) - 1) ⟨by omega, by simp only at a4; omega⟩
    obtain ⟨b, y, z⟩ := p
    have hc2 : cmpD .LtE (.tup [.int a, .int (u : Int), .int (v : Int)]) (.tup [.int b, .int (y : Int), .int (z : Int)]) = some false := hc
    have step : s_are_rules_l1 C (encR (a, u, v)) [.val d, .val (.int (n : Int)), .val (encR (b, y, z)), x] S = .nx [.val d, .val (.int (n : Int)), .val (encR (a, u, v)), .val (encR (a, u, v))] S := by
      simp only [s_are_rules_l1]
      simp [s_are_rules_l1_b, encR, w1, w2, w3, hc2]
    simp only [List.map_cons, List.cons_append, forL, step]
def BadR (n : Nat) (p : Rul) (x : D) : Prop := ∀ (k : Nat) (d : D) (y : Sl) (S : Sto), s_are_rules_l1 (callN g (k + 2)) x [.val d, .val (.int (n : Int)), .val (encR p), y] S = .ret (.bl false) S
def BadRs (n : Nat) (R : D) : Prop := ∀ (k : Nat) (S : Sto), callN g (k + 3) "are_rules" [R, .int (n : Int)] S = .ok (.bl false) S
theorem rules_bad (n : Nat) (l : List Rul) (x : D) (r : List D) (hl : RulesOk n l) (hx : BadR n (lastR l noR) x) : BadRs n (.tup (l.map encR ++ x :: r)) := by
  intro k S
  rw [c_are_rules]
  obtain ⟨y, q⟩ := pre_rules (callN g (k + 2)) (.tup (l.map encR ++ x :: r)) n S (fun i lo hi h => within_g k i lo hi S h) (x :: r) l noR .un hl.ok (List.pairwise_cons.mpr ⟨fun r hr => .inl (by have := (hl.ok r hr).1; simp only; omega), hl.inc⟩)
  have b := hx k (.tup (l.map encR ++ x :: r)) y S
  have f : forL (s_are_rules_l1 (callN g (k + 2))) (x :: r) [.val (.tup (l.map encR ++ x :: r)), .val (.int (n : Int)), .val (encR (lastR l noR)), y] S = .ret (.bl false) S := by
    simp only [forL, b]
  rw [f] at q
  have q2 : forL (s_are_rules_l1 (callN g (k + 2))) (l.map encR ++ x :: r) [.val (.tup (l.map encR ++ x :: r)), .val (.int (n : Int)), .val (.tup [.int (-1), .int 0, .int 0]), .un] S = .ret (.bl false) S := q
  generalize l.map encR ++ x :: r = X at *
  simp [s_are_rules, s_are_rules_b, q2]
theorem rules_flat (n : Nat) (R : D) (p : R.plain = true) (h : isiD "tuple" R = some false) : BadRs n R := by
  intro k S
  rw [c_are_rules]
  simp [s_are_rules, s_are_rules_b, view_id p, h]
theorem badR_flat (n : Nat) (p : Rul) (x : D) (pl : x.plain = true) (h : isiD "tuple" x = some false) : BadR n p x := by
  intro k d y S
  simp only [s_are_rules_l1]
  simp [s_are_rules_l1_b, view_id pl, h]
theorem badR_len (n : Nat) (p : Rul) (ds : List D) (h : ds.length ≠ 3) : BadR n p (.tup ds) := by
  intro k d y S
  have q : ((ds.length : Int) == 3) = false := by simp; omega
  simp only [s_are_rules_l1]
  simp [s_are_rules_l1_b, q]
def NoW (x : D) (hi : Int) : Prop := ∀ (k : Nat) (S : Sto), callN g (k + 2) "is_within" [x, .int 0, .int hi] S = .ok (.bl false) S
theorem now_out (i hi : Int) (h : i < 0 ∨ hi < i) : NoW (.int i) hi := by
  intro k S
  rw [c_is_within]
  by_cases h0 : 0 ≤ i
  · have h4 : decide (i ≤ hi) = false := by simp; omega
    simp [s_is_within, s_is_within_b, whole_ok, h0, h4]
  · have h4 : decide (0 ≤ i) = false := by simp; omega
    simp [s_is_within, s_is_within_b, whole_ok, h4]
theorem now_no (x : D) (hi : Int) (h : ∀ k S, callN g (k + 1) "is_whole" [x] S = .ok (.bl false) S) : NoW x hi := by
  intro k S
  rw [c_is_within]
  simp [s_is_within, s_is_within_b, h]
theorem badR_0 (n : Nat) (p : Rul) (a b c : D) (h : NoW a 4) : BadR n p (.tup [a, b, c]) := by
  intro k d y S
  simp only [s_are_rules_l1]
  simp [s_are_rules_l1_b, h k S]
theorem badR_1 (n : Nat) (p : Rul) (a : Int) (ha : 0 ≤ a ∧ a ≤ 4) (b c : D) (h : NoW b ((n : Int) - 1)) : BadR n p (.tup [.int a, b, c]) := by
  intro k d y S
  have w := within_g k a 0 4 S ha
  simp only [s_are_rules_l1]
  simp [s_are_rules_l1_b, w, h k S]
theorem badR_2 (n : Nat) (p : Rul) (a : Int) (ha : 0 ≤ a ∧ a ≤ 4) (b : Int) (hb : 0 ≤ b ∧ b ≤ (n : Int) - 1) (c : D) (h : NoW c ((n : Int) - 1)) : BadR n p (.tup [.int a, .int b, c]) := by
  intro k d y S
  have w := within_g k a 0 4 S ha
  have w2 := within_g k b 0 ((n : Int) - 1) S hb
  simp only [s_are_rules_l1]
  simp [s_are_rules_l1_b, w, w2, h k S]
def BadS (n : Nat) (x : D) : Prop := ∀ (k : Nat) (m : Nat) (ds : List D) (y : Sl) (S : Sto), ds.length = n → s_is_schema_l1 (callN g (k + 3)) x [.val (.tup ds), .val (.int (m : Int)), y] S = .ret (.bl false) S
theorem badS_flat (n : Nat) (x : D) (p : x.plain = true) (h : isiD "tuple" x = some false) : BadS n x := by
  intro k m ds y S hn
  simp only [s_is_schema_l1]
  simp [s_is_schema_l1_b, view_id p, h]
theorem badS_len (n : Nat) (xs : List D) (h : xs.length ≠ 2) : BadS n (.tup xs) := by
  intro k m ds y S hn
  have q : ((xs.length : Int) == 2) = false := by simp; omega
  simp only [s_is_schema_l1]
  simp [s_is_schema_l1_b, q]
theorem badS_ends (n : Nat) (e R : D) (p : e.plain = true) (h : isiD "bool" e = some false) : BadS n (.tup [e, R]) := by
  intro k m ds y S hn
  simp only [s_is_schema_l1]
  simp [s_is_schema_l1_b, view_id p, h]
theorem badS_rules (n : Nat) (b : Bool) (R : D) (h : BadRs n R) : BadS n (.tup [.bl b, R]) := by
  intro k m ds y S hn
  have q := h k S
  subst hn
  simp only [s_is_schema_l1]
  simp [s_is_schema_l1_b, q]
theorem pre_schema (C : Call) (d : D) (n : Nat) (ds : List D) (hd : d = .tup ds) (hn : ds.length = n) (S : Sto) (rest : List D) : ∀ (s : List Sta) (m : Nat) (x : Sl), (∀ st ∈ s, C "are_rules" [.tup (st.2.map encR), .int (n : Int)] S = .ok (.bl true) S) →
    ∃ x', forL (s_is_schema_l1 C) (s.map encQ ++ rest) [.val d, .val (.int (m : Int)), x] S = forL (s_is_schema_l1 C) rest [.val d, .val (.int ((m + rulesN s : Nat) : Int)), x'] S
  | [], m, x, _ => ⟨x, by simp [rulesN]⟩
  | st :: s, m, x, h => by
    obtain ⟨x', ih⟩ := pre_schema C d n ds hd hn S rest s (m + st.2.length) (.val (encQ st)) fun u hu => h u (List.mem_cons_of_mem _ hu)
    refine ⟨x', ?_⟩
    have q := h st (List.mem_cons_self ..)
    obtain ⟨b, rs⟩ := st
    have e : m + rs.length + rulesN s = m + rulesN ((b, rs) :: s) := by simp [rulesN]; omega
    rw [e] at ih
    rw [← ih]
    subst hd hn
    simp only at q
    have step : s_is_schema_l1 C (encQ (b, rs)) [.val (.tup ds), .val (.int (m : Int)), x] S = .nx [.val (.tup ds), .val (.int ((m + rs.length : Nat) : Int)), .val (encQ (b, rs))] S := by
      push_cast
      simp only [s_is_schema_l1]
      simp [s_is_schema_l1_b, encQ, q]
    simp only [List.map_cons, List.cons_append, forL, step]
theorem refS_of {d : D} (h : ∀ (k : Nat) (S : Sto), callN g (k + 4) "is_schema" [d] S = .ok (.bl false) S) : RefS d := by
  intro k S
  rw [c_check_schema]
  simp [s_check_schema, s_check_schema_b, h]
theorem refS_state (l : List Sta) (x : D) (r : List D) (n : Nat) (hn : (l.map encQ ++ x :: r).length = n) (h60 : n ≤ 60) (hl : ∀ st ∈ l, RulesOk n st.2) (hx : BadS n x) : RefS (.tup (l.map encQ ++ x :: r)) := by
  refine refS_of fun k S => ?_
  rw [c_is_schema]
  obtain ⟨y, q⟩ := pre_schema (callN g (k + 3)) _ n _ rfl hn S (x :: r) l 0 .un fun st hst => rules_ok k n st.2 S (hl st hst)
  have b := hx k (0 + rulesN l) _ y S hn
  have f : forL (s_is_schema_l1 (callN g (k + 3))) (x :: r) [.val (.tup (l.map encQ ++ x :: r)), .val (.int ((0 + rulesN l : Nat) : Int)), y] S = .ret (.bl false) S := by
    simp only [forL, b]
  rw [f] at q
  have hp : 1 ≤ (l.map encQ ++ x :: r).length := by simp; omega
  simp only [show ((0 : Nat) : Int) = 0 from rfl] at q
  generalize l.map encQ ++ x :: r = X at *
  have b1 : decide ((1 : Int) ≤ (X.length : Int)) = true := by simp; omega
  have b2 : decide ((X.length : Int) ≤ 60) = true := by simp; omega
  have b3 : (1 : Int) ≤ (X.length : Int) := by omega
  have b4 : (X.length : Int) ≤ 60 := by omega
  simp [s_is_schema, s_is_schema_b, b1, b2, b3, b4, show 0 < X.length from hp, show 1 ≤ X.length from hp, show X.length ≤ 60 by omega, q]
theorem refS_flat (x : D) (p : x.plain = true) (h : isiD "tuple" x = some false) : RefS x := by
  refine refS_of fun k S => ?_
  rw [c_is_schema]
  simp [s_is_schema, s_is_schema_b, view_id p, h]
theorem refS_len (xs : List D) (h : xs.length = 0 ∨ 60 < xs.length) : RefS (.tup xs) := by
  refine refS_of fun k S => ?_
  rw [c_is_schema]
  rcases h with h | h
  · have b1 : decide ((1 : Int) ≤ (xs.length : Int)) = false := by simp; omega
    have b3 : ¬ (1 : Int) ≤ (xs.length : Int) := by omega
    have b4 : xs = [] := List.eq_nil_of_length_eq_zero h
    subst b4
    simp [s_is_schema, s_is_schema_b]
  · have b2 : decide ((xs.length : Int) ≤ 60) = false := by simp; omega
    have b1 : decide ((1 : Int) ≤ (xs.length : Int)) = true := by simp; omega
    have b3 : (1 : Int) ≤ (xs.length : Int) := by omega
    have b4 : ¬ (xs.length : Int) ≤ 60 := by omega
    simp [s_is_schema, s_is_schema_b, b1, b2, b3, b4, show 0 < xs.length by omega, show 1 ≤ xs.length by omega, show ¬ xs.length ≤ 60 by omega]
theorem rules_mono {n m : Nat} {rs : List Rul} (h : RulesOk n rs) (hm : n ≤ m) : RulesOk m rs := ⟨h.inc, fun r hr => by have := h.ok r hr; omega⟩
theorem ref_app {s : List Sta} (hs : SchOk s) (x : D) (h : BadS (s.length + 1) x) : RefS (.tup (s.map encQ ++ [x])) := by
  by_cases h60 : s.length + 1 ≤ 60
  · exact refS_state s x [] (s.length + 1) (by simp) h60 (fun st hst => rules_mono (hs.rules st hst) (by omega)) h
  · exact refS_len _ (.inr (by simp; omega))
theorem isi_b1 : isiD "bool" (.int 1) = some false := id rfl
/-- the bad ones -/
def bads (s : List Sta) : List D := [.tup [], .tup (s.map encQ ++ [.tup [.bl true]]), .tup (s.map encQ ++ [.tup [.int 1, .tup []]]), .tup (s.map encQ ++ [.tup [.bl true, .tup [.tup [.int 0, .int 0, .int ((s.length : Int) + 1)]]]]), .tup (List.replicate 61 (s.map encQ)).flatten, .non, .str "0:",
  .tup (s.map encQ ++ [.tup [.bl false, .tup [.tup [.int 5, .int 0, .int 0]]]])]
theorem bads_ok {s : List Sta} (hs : SchOk s) : ∀ d ∈ bads s, RefS d := by
  intro d hd
  have lo := hs.lo
  have none_ : RulesOk (s.length + 1) [] := ⟨.nil, fun r hr => by cases hr⟩
  simp only [bads, List.mem_cons, List.not_mem_nil, or_false] at hd
  rcases hd with rfl | rfl | rfl | rfl | rfl | rfl | rfl | rfl
  · exact refS_len [] (.inl rfl)
  · exact ref_app hs _ (badS_len _ [.bl true] (by simp))
  · exact ref_app hs _ (badS_ends _ (.int 1) (.tup []) rfl isi_b1)
  · exact ref_app hs _ (badS_rules _ true _ (rules_bad _ [] _ [] none_ (badR_2 _ _ 0 (by omega) 0 (by omega) _ (now_out _ _ (.inr (by omega))))))
  · refine refS_len _ (.inr ?_)
    simp only [List.length_flatten, List.map_replicate, List.length_map, List.sum_replicate_nat]
    omega
  · exact refS_flat .non rfl rfl
  · exact refS_flat (.str "0:") (by rfl) rfl
  · exact ref_app hs _ (badS_rules _ false _ (rules_bad _ [] _ [] none_ (badR_0 _ _ _ _ _ (now_out _ _ (.inr (by omega))))))
theorem bn_61 (ds : List D) (h : ds.length ≤ 1000) : binD .Mult (.tup ds) (.int 61) = some (.tup (List.replicate 61 ds).flatten) := by
  have e : binD .Mult (.tup ds) (.int 61) = if -1000 ≤ (61 : Int) ∧ (61 : Int) ≤ 1000 ∧ ds.length ≤ 1000 then some (.tup (List.replicate (61 : Int).toNat ds).flatten) else none := rfl
  rw [e, if_pos ⟨by omega, by omega, h⟩]
  rfl
theorem pick_bad (k : Nat) {s : List Sta} (hs : SchOk s) (S : Sto) (hS : Box S) : ∃ d S', callN g (k + 2) "_law_pick" [.ref 0, .lst (bads s)] S = .ok d S' ∧ Box S' ∧ RefS d := by
  obtain ⟨i, S', hi, e, _, hB⟩ := pickD k (bads s) S (by simp [bads]) (by simp [bads]) hS
  exact ⟨_, S', e, hB, bads_ok hs _ (List.getElem_mem hi)⟩
/-! ### short texts -/
theorem nC2 {n : Nat} (h : n < 100) : (nC n).length ≤ 2 := TL.numL_len (by decide) h
theorem nC1 {n : Nat} (h : n < 10) : (nC n).length ≤ 1 := TL.numL_len (by decide) h
theorem rul_short {n : Nat} (hn : n ≤ 60) : ∀ rs : List Rul, (∀ r ∈ rs, (0 ≤ r.1 ∧ r.1 ≤ 4) ∧ r.2.1 < n ∧ r.2.2 < n) → (rulT rs).length ≤ 8 * rs.length
  | [], _ => Nat.le_refl _
  | r :: rs, h => by
    have ih := rul_short hn rs fun u hu => h u (List.mem_cons_of_mem _ hu)
    have hr := h r (List.mem_cons_self ..)
    have l1 := nC1 (n := r.1.toNat) (by omega)
    have l2 := nC2 (n := r.2.1) (by omega)
    have l3 := nC2 (n := r.2.2) (by omega)
    have l : (ruT r).length ≤ 7 := by
      show (nC r.1.toNat ++ (46 :: nC r.2.1 ++ (46 :: nC r.2.2 ++ []))).length ≤ 7
      simp only [List.length_append, List.length_cons, List.length_nil]
      omega
    rw [rulT_cons, List.length_append, List.length_cons, List.length_cons]; omega
theorem lines_short {n : Nat} (hn : n ≤ 60) : ∀ (s : List Sta) (q : Nat), q + s.length ≤ 100 → (∀ st ∈ s, RulesOk n st.2 ∧ st.2.length ≤ 3) → sumL (liTs q s) ≤ 32 * s.length
  | [], _, _, _ => Nat.le_refl _
  | st :: s, q, hq, h => by
    rw [List.length_cons] at hq
    have ih := lines_short hn s (q + 1) (by omega) fun u hu => h u (List.mem_cons_of_mem _ hu)
    obtain ⟨h1, h2⟩ := h st (List.mem_cons_self ..)
    have l1 := nC2 (n := q) (by omega)
    have l2 := rul_short hn st.2 h1.ok
    have l3 : (if st.1 then 32 :: endW else []).length ≤ 4 := by split <;> decide
    rw [liTs, sumL_cons, liT_eq, List.length_cons]
    simp only [List.length_append, List.length_cons, List.length_nil]
    omega
theorem scT_short {s : List Sta} (h : Drawn s) : (scT s).length ≤ 1920 := by
  have ne : liTs 0 s ≠ [] := fun z => by
    have := congrArg List.length z
    rw [liTs_len, List.length_nil] at this
    have := h.ok.lo
    omega
  have j := joinL_len 10 (liTs 0 s) ne
  have l := lines_short h.ok.hi s 0 (by have := h.ok.hi; omega) fun st hst => ⟨h.ok.rules st hst, h.few st hst⟩
  have := h.ok.hi
  show (TL.joinL [10] (liTs 0 s)).length ≤ 1920
  omega
end K29
set_option maxHeartbeats 16000000
namespace K29
open PySem Lw
/-! ### the law -/
theorem compL_ints {step : D → Sto → R (Option D)} {S : Sto} {f : Int → Int} : ∀ (ns : List Int) (acc : List D), (∀ n : Int, step (.int n) S = .ok (some (.int (f n))) S) → compL step (ns.map D.int) acc S = .ok (acc ++ (ns.map f).map D.int) S
  | [], acc, _ => by simp [compL]
  | n :: ns, acc, h => by simp [compL, h n, compL_ints (f := f) ns (acc ++ [.int (f n)]) h]
theorem box_ok (k : Nat) (ns : List Int) (hl : ns.length ≤ 63) : ∃ S, callN g (k + 1) "_law_box" [.lst (ns.map D.int)] [] = .ok (.ref 0) S ∧ Box S := by
  refine ⟨[.lst [.int 0, .int 0, .int 0, .lst ((ns.map fun n => if n < 0 then -n else n).map D.int)]], ?_, _, _, _, _, rfl, by omega⟩
  rw [c__law_box]
  have step : ∀ n : Int, s__law_box_c1 (callN g k) [.val (.lst (ns.map D.int)), .un] (.int n) [] = .ok (some (.int (if n < 0 then -n else n))) [] := fun n => by
    simp [s__law_box_c1, s__law_box_c1_t, s__law_box_c1_e]
  have q := compL_ints (f := fun n => if n < 0 then -n else n) ns [] step
  simp [s__law_box, s__law_box_b, show ns.length ≤ LINE from by unfold LINE; omega, q, show 4 ≤ LINE from by decide]
theorem ne_sc : cmpD .NotEq refSc refSc = some false := by kernel_rfl
theorem eq_tt : cmpD .Eq refT refT = some true := by kernel_rfl
theorem loop_2 (k : Nat) (t : List Nat) (ht : t.length ≤ 1920) (ha : Asc t) (a0 a2 a3 a4 a5 a8 : Sl) : ∀ (m j : Nat) (a7 a9 : Sl) (S : Sto), Box S →
    ∃ y7 y9 S', forL (s_law_l2 (callN g (k + 7))) (rng j m) [a0, .val (.ref 0), a2, a3, a4, a5, .val (.str (cS t)), a7, a8, a9, .un] S = .nx [a0, .val (.ref 0), a2, a3, a4, a5, .val (.str (cS t)), y7, a8, y9, .un] S' ∧ Box S'
  | 0, j, a7, a9, S, hS => ⟨a7, a9, S, by rw [rng_z]; rfl, hS⟩
  | m + 1, j, a7, a9, S, hS => by
    obtain ⟨t1, S1, e1, B1, h1, l1⟩ := spoilt_ok (k + 4) t S hS (by omega) ha
    have g1 := agrees_ok k t1 S1 (by omega) h1
    obtain ⟨t2, S2, e2, B2, h2, l2⟩ := spoilt_ok (k + 4) t1 S1 B1 (by omega) h1
    have g2 := agrees_ok k t2 S2 (by omega) h2
    obtain ⟨y7, y9, S', ih, B'⟩ := loop_2 k t ht ha a0 a2 a3 a4 a5 a8 m (j + 1) (.val (.int (j : Int))) (.val (.str (cS t1))) S2 B2
    refine ⟨y7, y9, S', ?_, B'⟩
    rw [← ih, rng_s]
    have st : s_law_l2 (callN g (k + 7)) (.int (j : Int)) [a0, .val (.ref 0), a2, a3, a4, a5, .val (.str (cS t)), a7, a8, a9, .un] S = .nx [a0, .val (.ref 0), a2, a3, a4, a5, .val (.str (cS t)), .val (.int (j : Int)), a8, .val (.str (cS t1)), .un] S2 := by
      generalize cS t = T at *
      generalize cS t1 = T1 at *
      generalize cS t2 = T2 at *
      simp [s_law_l2, s_law_l2_b, e1, g1, e2, g2]
    simp only [forL, st]
theorem turn_ok (k j : Nat) (S : Sto) (hS : Box S) (a0 a2 a3 a4 a5 a6 a7 a8 a9 : Sl) : ∃ y4 y5 y6 y7 y8 y9 S', s_law_l1 (callN g (k + 7)) (.int (j : Int)) [a0, .val (.ref 0), a2, a3, a4, a5, a6, a7, a8, a9, .un] S = .nx [a0, .val (.ref 0), .val (.int (j : Int)), a3, y4, y5, y6, y7, y8, y9, .un] S' ∧ Box S' := by
  obtain ⟨v, S1, e1, hv, B1⟩ := take_c (k + 6) 5 (by omega) (by omega) hS
  have both : ∃ s S2, Drawn s ∧ Box S2 ∧ (if v = 0 then callN g (k + 7) "_law_wide" [.ref 0] S1 else callN g (k + 7) "_law_schema" [.ref 0, .int 4] S1) = .ok (sch s) S2 := by
    by_cases hz : v = 0
    · obtain ⟨s, S2, e, B, d⟩ := draw_wide (k + 5) S1 B1
      exact ⟨s, S2, d, B, by rw [if_pos hz]; exact e⟩
    · obtain ⟨s, S2, e, B, d⟩ := draw_schema (k + 3) S1 B1
      exact ⟨s, S2, d, B, by rw [if_neg hz]; exact e⟩
  obtain ⟨s, S2, hd, B2, e2⟩ := both
  have hs := hd.ok
  have sh := scT_short hd
  obtain ⟨x, r1, r2⟩ := repr_schB hs
  obtain ⟨y, r3, r4⟩ := repr_cS (asc_scT s) (by omega)
  have n1 := cp_str_ne x r2
  have n2 := cp_str_ne y r4
  have tx := law_text_ok (k + 6) s S2 (fun st hst => okN_of (hs.rules st hst) hs.hi) (by have := hs.hi; omega) (by have := hs.many; omega)
  have tl := told_1 k S2 hs
  have ag := agrees_ok k (scT s) S2 (by omega) (asc_scT s)
  obtain ⟨y7, y9, S3, lp, B3⟩ := loop_2 k (scT s) sh (asc_scT s) a0 (.val (.int (j : Int))) a3 (.val (sch s)) (.val (.str x)) a8 4 0 a7 a9 S2 B2
  have r : rangeA1 [.int 4] S2 = .ok (rng 0 4) S2 := rangeA1_nat 4 S2 (by omega)
  obtain ⟨d, S4, e4, B4, hb⟩ := pick_bad (k + 5) hs S3 B3
  have tb := told_b k d S4 hb
  have L : LINE = 16777216 := rfl
  have lo := hs.hi
  have ll : (s.map encQ).length ≤ 60 := by rw [List.length_map]; exact lo
  have p1 := bn_addT (s.map encQ) [.tup [.bl true]] (by rw [L]; simp; omega)
  have p2 := bn_addT (s.map encQ) [.tup [.int 1, .tup []]] (by rw [L]; simp; omega)
  have p3 := bn_addT (s.map encQ) [.tup [.bl true, .tup [.tup [.int 0, .int 0, .int ((s.length : Int) + 1)]]]] (by rw [L]; simp; omega)
  have p4 := bn_addT (s.map encQ) [.tup [.bl false, .tup [.tup [.int 5, .int 0, .int 0]]]] (by rw [L]; simp; omega)
  have p5 := bn_61 (s.map encQ) (by omega)
  have ln : callD "len" [sch s] = some (.int (s.length : Int)) := by
    show some (D.int (((s.map encQ).length : Nat) : Int)) = _
    rw [List.length_map]
  refine ⟨.val (sch s), .val (.str x), .val (.str (cS (scT s))), y7, .val d, y9, S4, ?_, B4⟩
  have e4 : callN g (k + 7) "_law_pick" [.ref 0, .lst [.tup [], .tup (s.map encQ ++ [.tup [.bl true]]), .tup (s.map encQ ++ [.tup [.int 1, .tup []]]), .tup (s.map encQ ++ [.tup [.bl true, .tup [.tup [.int 0, .int 0, .int ((s.length : Int) + 1)]]]]), .tup (List.replicate 61 (s.map encQ)).flatten, .non, .str "0:",
    .tup (s.map encQ ++ [.tup [.bl false, .tup [.tup [.int 5, .int 0, .int 0]]]])]] S3 = .ok d S4 := e4
  unfold sch at *
  have b0 : ((v : Int) == 0) = decide (v = 0) := by
    by_cases z : v = 0 <;> simp [z]
  generalize (List.replicate 61 (s.map encQ)).flatten = Q5 at *
  generalize s.map encQ ++ [.tup [.bl true]] = Q1 at *
  generalize s.map encQ ++ [.tup [.int 1, .tup []]] = Q2 at *
  generalize s.map encQ ++ [.tup [.bl true, .tup [.tup [.int 0, .int 0, .int ((s.length : Int) + 1)]]]] = Q3 at *
  generalize s.map encQ ++ [.tup [.bl false, .tup [.tup [.int 5, .int 0, .int 0]]]] = Q4 at *
  generalize cS (scT s) = T at *
  generalize s.map encQ = SM at *
  generalize rng 0 4 = RG at *
  by_cases hz : v = 0
  · rw [if_pos hz] at e2
    rw [decide_eq_true hz] at b0
    simp [s_law_l1, s_law_l1_b, e1, b0, e2, r1, r3, n1, n2, tx, tl, ag, r, lp, p1, p2, p3, p4, p5, ln, e4, tb, ne_sc, show 8 ≤ LINE from by decide, show 1 ≤ LINE from by decide, show 2 ≤ LINE from by decide, show 3 ≤ LINE from by decide]
  · rw [if_neg hz] at e2
    rw [decide_eq_false hz] at b0
    simp [s_law_l1, s_law_l1_b, e1, b0, e2, r1, r3, n1, n2, tx, tl, ag, r, lp, p1, p2, p3, p4, p5, ln, e4, tb, ne_sc, show 8 ≤ LINE from by decide, show 1 ≤ LINE from by decide, show 2 ≤ LINE from by decide, show 3 ≤ LINE from by decide]
def longL : List (List Nat) := (List.range 61).map fun q => nC q ++ [58]
theorem long_free : ∀ p ∈ longL, 10 ∉ p ∧ Asc p := fun p hp => by
  obtain ⟨q, _, rfl⟩ := List.mem_map.mp hp
  refine ⟨fun z => ?_, asc_app (asc_nC q) (asc_cons (by decide) asc_nil)⟩
  rcases List.mem_append.mp z with z | z
  · exact nC_free (by decide) z
  · revert z; decide
theorem long_len : ∀ p ∈ longL, p.length ≤ 7 := fun p hp => by
  obtain ⟨q, hq, rfl⟩ := List.mem_map.mp hp
  have := List.mem_range.mp hq
  have := nC2 (n := q) (by omega)
  rw [List.length_append, List.length_singleton]; omega
def longT : List Nat := TL.joinL [10] longL
theorem sumL_le (b : Nat) : ∀ ls : List (List Nat), (∀ p ∈ ls, p.length ≤ b) → sumL ls ≤ ls.length * (b + 1)
  | [], _ => Nat.zero_le _
  | l :: ls, h => by
    have ih := sumL_le b ls fun u hu => h u (List.mem_cons_of_mem _ hu)
    have h1 := h l (List.mem_cons_self ..)
    rw [sumL_cons, List.length_cons, Nat.succ_mul]; omega
theorem long_61 : longL.length = 61 := by unfold longL; rw [List.length_map, List.length_range]
theorem long_sum : sumL longL ≤ 488 := by
  have := sumL_le 7 longL long_len
  rw [long_61] at this
  exact this
theorem long_facts : Asc longT ∧ longT.length ≤ 488 ∧ sp 10 longT = longL ∧ progR longT = none := by
  have ne : longL ≠ [] := fun z => by
    have := long_61
    rw [z] at this
    exact absurd this (by decide)
  have s := long_sum
  have j := joinL_len 10 longL ne
  have e : sp 10 longT = longL := by
    unfold longT
    cases h : longL with
    | nil => exact absurd h ne
    | cons p ps =>
      have hf := long_free
      rw [h] at hf
      rw [join_beh]
      exact sp_beh (hf p (List.mem_cons_self ..)).1 fun q hq => (hf q (List.mem_cons_of_mem _ hq)).1
  refine ⟨joinL_asc 10 (by decide) longL fun p hp => (long_free p hp).2, by unfold longT; omega, e, ?_⟩
  unfold progR
  rw [e, long_61, if_neg (by decide)]
theorem long_comp (C : Call) (S : Sto) (a0 a1 a2 a3 a4 a5 a6 a7 a8 a9 : Sl) : compL (s_law_c1 C [a0, a1, a2, a3, a4, a5, a6, a7, a8, a9, .un]) (rng 0 61) [] S = .ok (strsD longL) S := by
  have e : rng 0 61 = (List.range 61).map fun q : Nat => D.int (q : Int) := by
    unfold rng
    rw [List.range_eq_range']
  rw [e]
  refine (compL_all (step := s_law_c1 C [a0, a1, a2, a3, a4, a5, a6, a7, a8, a9, .un]) (en := fun q : Nat => D.int (q : Int)) (f := fun q => D.str (cS (nC q ++ [58]))) (List.range 61) [] fun q hq => ?_).trans ?_
  · have h := List.mem_range.mp hq
    have sq := str_num q (by omega)
    have l := nC2 (n := q) (by omega)
    have bq : binD .Add (.str (cS (nC q))) (.str ":") = some (.str (cS (nC q ++ [58]))) := by rw [w_col]; exact bn_cS _ _ (by simp; omega)
    simp [s_law_c1, s_law_c1_t, s_law_c1_e, sq, bq]
  · rw [List.nil_append]
    unfold strsD longL
    rw [List.map_map]
    rfl
theorem law_ok (ns : List Int) (hl : ns.length ≤ 63) : ∃ S, callN md.g 40 "law" [.lst (ns.map D.int)] [] = .ok (.bl true) S := by
  obtain ⟨S0, e0, B0⟩ := box_ok 38 ns hl
  obtain ⟨a4, a5, a6, a7, a8, a9, S1, t1, B1⟩ := turn_ok 32 0 S0 B0 (.val (.lst (ns.map D.int))) .un .un .un .un .un .un .un .un
  obtain ⟨b4, b5, b6, b7, b8, b9, S2, t2, B2⟩ := turn_ok 32 1 S1 B1 (.val (.lst (ns.map D.int))) (.val (.int ((0 : Nat) : Int))) .un a4 a5 a6 a7 a8 a9
  obtain ⟨f1, f2, f3, f4⟩ := long_facts
  have ag := agrees_ok 32 [] S2 (by simp) asc_nil
  have td := told_0 33 longT S2 (by omega) f1
  rw [f4] at td
  have jn := join_nl longL (by have := long_sum; omega)
  have r2 := rangeA1_nat 2 S0 (by omega)
  have r61 := rangeA1_nat 61 S2 (by omega)
  refine ⟨S2, ?_⟩
  rw [c_law 39]
  have ag : callN md.g 39 "_law_agrees" [.str ""] S2 = .ok (.bl true) S2 := by rw [w_no]; exact ag
  have td : callN md.g 39 "_law_told" [.int 0, .str (cS longT)] S2 = .ok refT S2 := td
  have jn : joinD "\n" (.lst (strsD longL)) = some (.str (cS longT)) := jn
  have cl := long_comp (callN md.g 39) S2 (.val (.lst (ns.map D.int))) (.val (.ref 0)) (.val (.int ((1 : Nat) : Int))) .un b4 b5 b6 b7 b8 b9
  have lp : forL (s_law_l1 (callN md.g 39)) (rng 0 2) [.val (.lst (ns.map D.int)), .val (.ref 0), .un, .un, .un, .un, .un, .un, .un, .un, .un] S0 = .nx [.val (.lst (ns.map D.int)), .val (.ref 0), .val (.int ((1 : Nat) : Int)), .un, b4, b5, b6, b7, b8, b9, .un] S2 := by
    have q1 : s_law_l1 (callN md.g 39) (.int ((0 : Nat) : Int)) [.val (.lst (ns.map D.int)), .val (.ref 0), .un, .un, .un, .un, .un, .un, .un, .un, .un] S0 = _ := t1
    have q2 : s_law_l1 (callN md.g 39) (.int ((1 : Nat) : Int)) [.val (.lst (ns.map D.int)), .val (.ref 0), .val (.int ((0 : Nat) : Int)), .un, a4, a5, a6, a7, a8, a9, .un] S1 = _ := t2
    rw [rng_s, rng_s, rng_z]
    simp only [forL, q1, q2]
  have rl : (rng 0 61).length ≤ LINE := by rw [rng_len]; decide
  simp only [show ((1 : Nat) : Int) = 1 from rfl, show ((2 : Nat) : Int) = 2 from rfl, show ((61 : Nat) : Int) = 61 from rfl] at r2 r61 cl lp
  have eq := eq_tt
  generalize rng 0 2 = R2 at *
  generalize rng 0 61 = R61 at *
  generalize strsD longL = LL at *
  generalize cS longT = LT at *
  generalize ns.map D.int = NS at *
  simp [s_law, s_law_b, s_law_r0, s_law_r1, s_law_r2, s_law_r3, e0, r2, lp, r61, cl, jn, rl, ag, td, eq]
end K29
theorem PySem.Challenge.cw_leafward_k29_texts_of_schemas_holds : PySem.Challenge.rw_leafward_k29_texts_of_schemas.Holds := by
  exact K29.holds_of 40 ⟨rfl, by decide, by decide⟩ K29.law_ok
