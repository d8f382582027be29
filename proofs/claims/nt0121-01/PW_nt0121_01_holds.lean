import PyProof.Rows.All
import Wide.All
import OpenK.AllK
import Wide.FinOn
import PySem.Challenge.RW_nt0121_01
set_option Elab.async false
set_option maxRecDepth 100000
set_option linter.all false
set_option genSizeOf false
set_option maxHeartbeats 2000000
-- A law that draws its own data. The road: a clean interpreter lv over the program's own trees (E0), the code of the 48 functions in direct style (C0, equal to
-- the interpreter by the kernel), the law walked in it (law_W), the interpreter sound against the model (sound), the written heap seen by checks (Seen), the join (Mine.main).
namespace Mine
open PySem
inductive PV where
  | none
  | bool (b : Bool)
  | int (i : Int)
  | str (s : Str)
  | bytes (b : Array UInt8)
  | tup (l : List PV)
  | obj (i : Nat)
  | rng (n : Nat)
  | ints (l : List Int)
  | raw (v : Value)
inductive PO where
  | list (l : List PV)
  | inst (C : Addr) (fs : List (Str × PV))
structure PH where
  next : Nat
  get : Nat → Option PO
noncomputable def PH.set (H : PH) (i : Nat) (o : PO) : PH := ⟨H.next, fun j => if j = i then some o else H.get j⟩
noncomputable def PH.push (H : PH) (o : PO) : PH := ⟨H.next + 1, fun j => if j = H.next then some o else H.get j⟩
noncomputable abbrev Loc := Str → Option PV
noncomputable def Loc.upd (ℓ : Loc) (x : Str) (v : PV) : Loc := fun y => if y = x then some v else ℓ y
structure FnI where
  params : List Str
  opt : Nat
  body : List Stmt
  scope : Scope
structure ClsI where
  init : Addr
  meths : List (Str × Addr)
  attrs : List Str
  mro : List Addr
noncomputable def fnS : Stmt → FnI
  | .FunctionDef _ args body _ _ _ scope _ _ _ => ⟨args.args.map (·.arg), args.defaults.length, body, scope⟩
  | _ => ⟨[], 0, [], ⟨.function, [], false, false, []⟩⟩
noncomputable def pwAll : List Stmt := PySem.Challenge.pw_nt0121_01.main.body.flatMap fun s => match s with
  | .ClassDef _ _ _ body .. => s :: body
  | s => [s]
noncomputable def pf (i : Nat) : FnI := fnS ((pwAll[i]?).getD (.Pass ⟨0, 0, 0, 0⟩))
noncomputable def fnIdx : List (Nat × Nat) := [(617, 75), (624, 76), (631, 77), (638, 78), (643, 79), (650, 80), (657, 83), (664, 84), (681, 90), (702, 92), (714, 94), (735, 96), (742, 97), (747, 98), (768, 100), (775, 103), (796, 106), (810, 108), (817, 109),
  (824, 110), (831, 111), (838, 112), (843, 113), (850, 114), (855, 115), (862, 116), (867, 117), (874, 118), (879, 119), (894, 120), (901, 122), (908, 123), (915, 124), (922, 125), (929, 126), (934, 127), (939, 128), (946, 129), (951, 130),
  (956, 131), (961, 132), (968, 133), (973, 134), (134, 18), (522, 63), (548, 66), (574, 69), (600, 72)]
noncomputable def clsL : List (Nat × ClsI) := [
  (144, ⟨134, [], ["value"], [144, 118, 104]⟩),
  (532, ⟨522, [], ["name", "type_name", "constraints"], [532, 104]⟩),
  (558, ⟨548, [], ["name", "collation", "descending"], [558, 104]⟩),
  (584, ⟨574, [], ["kind", "columns", "check"], [584, 104]⟩),
  (610, ⟨600, [], ["name", "columns", "constraints", "if_missing", "text"], [610, 104]⟩),
  (684, ⟨681, [], ["name", "type_name", "affinity", "collation", "not_null", "default"], [684]⟩),
  (717, ⟨702, [("places", 714)], ["name", "table", "root", "columns", "unique", "origin", "sql"], [717]⟩),
  (757, ⟨735, [("place_of", 742), ("affinities", 747)], ["name", "root", "columns", "rowid_place", "indexes", "checks", "sql", "primary"], [757]⟩),
  (882, ⟨810, [("root_at", 817), ("read", 824), ("add_column", 831), ("add_column_constraint", 838), ("add_table_constraint", 843), ("constraint_column", 850), ("add_primary", 855), ("add_unique", 862), ("settle", 867), ("settled", 874), ("is_needless", 879)],
    ["roots", "statement", "table", "has_primary"], [882]⟩),
  (170, ⟨160, [], [], [170, 118, 104]⟩), (196, ⟨186, [], [], [196, 118, 104]⟩), (222, ⟨212, [], [], [222, 118, 104]⟩), (248, ⟨238, [], [], [248, 118, 104]⟩), (274, ⟨264, [], [], [274, 118, 104]⟩), (300, ⟨290, [], [], [300, 118, 104]⟩), (326, ⟨316, [], [], [326, 118, 104]⟩), (352, ⟨342, [], [], [352, 118, 104]⟩), (376, ⟨368, [], [], [376, 118, 104]⟩), (402, ⟨392, [], [], [402, 118, 104]⟩),
  (428, ⟨418, [], [], [428, 118, 104]⟩), (454, ⟨444, [], [], [454, 118, 104]⟩), (480, ⟨470, [], [], [480, 118, 104]⟩), (506, ⟨496, [], [], [506, 118, 104]⟩)]
noncomputable def globL : List (String × PV) := [("fold", PV.raw (.ref 617)), ("children", PV.raw (.ref 624)), ("is_aggregate_call", PV.raw (.ref 631)), ("aggregates_in", PV.raw (.ref 638)), ("has_subquery", PV.raw (.ref 643)), ("names_in", PV.raw (.ref 650)), ("fold_ascii", PV.raw (.ref 657)), ("affinity_of_type", PV.raw (.ref 664)),
  ("check_collation", PV.raw (.ref 768)), ("check_default", PV.raw (.ref 775)), ("is_integer_type", PV.raw (.ref 796)), ("table_from", PV.raw (.ref 894)), ("_law_types", PV.raw (.ref 901)), ("_law_pool", PV.raw (.ref 908)), ("_law_take", PV.raw (.ref 915)), ("_law_turned", PV.raw (.ref 922)),
  ("_law_column", PV.raw (.ref 929)), ("_law_drawn", PV.raw (.ref 934)), ("_law_statement", PV.raw (.ref 939)), ("_law_detail", PV.raw (.ref 946)), ("_law_keys", PV.raw (.ref 951)), ("_law_autos", PV.raw (.ref 956)), ("_law_columns_right", PV.raw (.ref 961)), ("_law_table_right", PV.raw (.ref 968)), ("law", PV.raw (.ref 973)),
  ("Literal", PV.raw (.ref 144)), ("ColumnDef", PV.raw (.ref 532)), ("IndexedColumn", PV.raw (.ref 558)), ("TableConstraint", PV.raw (.ref 584)), ("CreateTable", PV.raw (.ref 610)), ("Column", PV.raw (.ref 684)), ("Index", PV.raw (.ref 717)), ("Table", PV.raw (.ref 757)), ("TableMaker", PV.raw (.ref 882)),
  ("Name", PV.raw (.ref 170)), ("Unary", PV.raw (.ref 196)), ("Binary", PV.raw (.ref 222)), ("Between", PV.raw (.ref 248)), ("InList", PV.raw (.ref 274)), ("InSelect", PV.raw (.ref 300)), ("Exists", PV.raw (.ref 326)), ("Scalar", PV.raw (.ref 352)), ("Case", PV.raw (.ref 376)), ("Call", PV.raw (.ref 402)), ("Cast", PV.raw (.ref 428)), ("Collate", PV.raw (.ref 454)), ("IsNull", PV.raw (.ref 480)), ("Match", PV.raw (.ref 506)),
  ("SPACES", PV.str " \t\n\x0b\x0c\r"), ("AUTO_PREFIX", PV.str "pagebase_auto_"), ("MOST_COLUMNS", PV.int 2000), ("COLLATIONS", PV.tup [PV.str "binary", PV.str "nocase", PV.str "rtrim"]), ("ROWID_NAMES", PV.tup [PV.str "rowid", PV.str "oid", PV.str "_rowid_"]),
  ("len", PV.raw (.builtin "len")), ("max", PV.raw (.builtin "max")), ("min", PV.raw (.builtin "min")), ("chr", PV.raw (.builtin "chr")), ("ord", PV.raw (.builtin "ord")), ("any", PV.raw (.builtin "any")), ("repr", PV.raw (.builtin "repr")), ("isinstance", PV.raw (.builtin "isinstance")),
  ("range", PV.raw (.type "range")), ("list", PV.raw (.type "list")), ("int", PV.raw (.type "int")), ("bool", PV.raw (.type "bool")), ("str", PV.raw (.type "str")), ("enumerate", PV.raw (.type "enumerate"))]
noncomputable def glob (x : Str) : Option PV := (globL.map fun p => (Str.ofString p.1, p.2)).lookup x
noncomputable def fns (a : Addr) : Option FnI := (fnIdx.lookup a).map pf
noncomputable def cls (a : Addr) : Option ClsI := clsL.lookup a
noncomputable abbrev KV := PV → PH → Prop
noncomputable abbrev CM (α : Type) := (α → PH → Prop) → PH → Prop
noncomputable def pureC {α} (a : α) : CM α := fun K H => K a H
noncomputable def bindC {α β} (m : CM α) (f : α → CM β) : CM β := fun K H => m (fun a H1 => f a K H1) H
noncomputable def failC {α} : CM α := fun _ _ => False
noncomputable def optC {α} (o : Option α) : CM α := fun K H => match o with
  | some v => K v H
  | none => False
noncomputable def condC {α} (b : Bool) (x y : CM α) : CM α := fun K H => cond b (x K H) (y K H)
noncomputable def nameP (sc : Scope) (ℓ : Loc) (x : Str) : Option PV := if x == "__debug__" || x == "__classdict__" then none else match sc.names.lookup x with
  | some .globalImplicit => glob x
  | some .globalExplicit => none
  | some _ => ℓ x
  | none => none
noncomputable def constP : Const → Option PV
  | .none => some .none
  | .bool b => some (.bool b)
  | .int i => some (.int i)
  | .str s => some (.str s)
  | .bytes b => some (.bytes b.toArray)
  | _ => none
noncomputable def truthC (v : PV) : CM Bool := fun K H => match v with
  | .none => K false H
  | .bool b => K b H
  | .int i => K (decide (i ≠ 0)) H
  | .str s => s.length ≤ 1000 ∧ K (decide (s.length ≠ 0)) H
  | .bytes b => b.size ≤ 1000 ∧ K (decide (b.size ≠ 0)) H
  | _ => False
noncomputable def seqC : List (CM PV) → CM (List PV)
  | [] => pureC []
  | m :: r => bindC m fun a => bindC (seqC r) fun l => pureC (a :: l)
noncomputable def boolC (op : BoolOp) : List (CM PV) → CM PV
  | [] => failC
  | [m] => m
  | m :: r => bindC m fun v => bindC (truthC v) fun t => match op with
    | .And => condC t (boolC op r) (pureC v)
    | .Or => condC t (pureC v) (boolC op r)
noncomputable def allTrueC (op : BoolOp) : List (CM Bool) → CM Bool
  | [] => match op with
    | .And => pureC true
    | .Or => pureC false
  | m :: r => bindC m fun t => match op with
    | .And => condC t (allTrueC op r) (pureC false)
    | .Or => condC t (pureC true) (allTrueC op r)
noncomputable def allocC (l : List PV) : CM PV := fun K H => l.length ≤ 1000 ∧ K (.obj H.next) (H.push (.list l))
noncomputable def small (i : Int) : Prop := -(2 ^ 62) < i ∧ i < 2 ^ 62
inductive BinC (op : Operator) (a b : PV) (K : KV) (H : PH) : Prop
  | add (x y : Int) (h : op = .Add) (ha : a = .int x) (hb : b = .int y) (k : K (.int (x + y)) H)
  | sub (x y : Int) (h : op = .Sub) (ha : a = .int x) (hb : b = .int y) (k : K (.int (x - y)) H)
  | mul (x y : Int) (h : op = .Mult) (ha : a = .int x) (hb : b = .int y) (sx : small x) (k : K (.int (x * y)) H)
  | div (x y : Int) (h : op = .FloorDiv) (ha : a = .int x) (hb : b = .int y) (g : y ≠ 0 ∧ y.natAbs < 1073741824) (k : K (.int (x.fdiv y)) H)
  | mod (x y : Int) (h : op = .Mod) (ha : a = .int x) (hb : b = .int y) (g : y ≠ 0) (k : K (.int (x.fmod y)) H)
  | pow (x y : Int) (h : op = .Pow) (ha : a = .int x) (hb : b = .int y) (g : 0 ≤ y ∧ y ≤ 100) (sx : small x) (k : K (.int (x ^ y.toNat)) H)
  | addS (x y : Str) (h : op = .Add) (ha : a = .str x) (hb : b = .str y) (g : x.length + y.length ≤ 1000) (k : K (.str (x ++ y)) H)
  | addL (i j : Nat) (l m : List PV) (h : op = .Add) (ha : a = .obj i) (hb : b = .obj j) (gi : H.get i = some (.list l)) (gj : H.get j = some (.list m)) (g : l.length + m.length ≤ 1000) (k : K (.obj H.next) (H.push (.list (l ++ m))))
  | mulL (i : Nat) (y : Int) (l : List PV) (h : op = .Mult) (ha : a = .obj i) (hb : b = .int y) (gi : H.get i = some (.list l)) (g : l.length ≤ 10 ∧ 0 ≤ y ∧ y ≤ 10) (k : K (.obj H.next) (H.push (.list (List.replicate y.toNat l).flatten)))
inductive UnC (op : UnaryOp) (a : PV) (K : KV) (H : PH) : Prop
  | neg (x : Int) (h : op = .USub) (ha : a = .int x) (k : K (.int (-x)) H)
  | not (h : op = .Not) (k : truthC a (fun t H => K (.bool (!t)) H) H)
noncomputable def eqAtom (a b : PV) : Option Bool := match a with
  | .none => match b with
    | .none => some true
    | .int _ => some false
    | .str _ => some false
    | .bool _ => some false
    | _ => none
  | .int x => match b with
    | .none => some false
    | .int y => some (x == y)
    | .str _ => some false
    | _ => none
  | .str x => match b with
    | .none => some false
    | .int _ => some false
    | .str y => some (x == y)
    | _ => none
  | .bool x => match b with
    | .none => some false
    | .bool y => some (x == y)
    | _ => none
  | .bytes _ => match b with
    | .none => some false
    | _ => none
  | _ => none
mutual
noncomputable def eqP (H : PH) : Nat → PV → PV → Option Bool
  | 0, _, _ => none
  | n + 1, a, b => match a with
    | .tup l => match b with
      | .tup m => if l.length ≤ 1000 ∧ m.length ≤ 1000 then (eqAllP H n l m).map fun r => r && l.length == m.length else none
      | _ => none
    | .obj i => match b with
      | .obj j => if i = j then none else match H.get i with
        | some (.list l) => match H.get j with
          | some (.list m) => if l.length = m.length then eqAllP H n l m else some false
          | _ => none
        | _ => none
      | _ => none
    | a => eqAtom a b
noncomputable def eqAllP (H : PH) : Nat → List PV → List PV → Option Bool
  | 0, _, _ => none
  | n + 1, l, m => match l with
    | [] => some true
    | a :: l => match m with
      | [] => some true
      | b :: m => match eqP H n a b with
        | some x => (eqAllP H n l m).map fun y => x && y
        | none => none
end
noncomputable def anyIn (H : PH) (x : PV) : List PV → Option Bool
  | [] => some false
  | y :: r => match eqP H 40 y x with
    | some a => (anyIn H x r).map fun b => a || b
    | none => none
noncomputable def isSome : PV → Bool
  | .none => false
  | .raw _ => false
  | _ => true
noncomputable def noBytes : PV → Bool
  | .bytes _ => false
  | _ => true
inductive CmpC (op : CmpOp) (a b : PV) (K : KV) (H : PH) : Prop
  | eq (r : Bool) (h : op = .Eq) (e : eqP H 40 a b = some r) (k : K (.bool r) H)
  | ne (r : Bool) (h : op = .NotEq) (n : noBytes a = true) (e : eqP H 40 a b = some r) (k : K (.bool (!r)) H)
  | is_ (h : op = .Is) (hb : b = .none) (ha : a = .none) (k : K (.bool true) H)
  | isNo (h : op = .Is) (hb : b = .none) (ha : isSome a = true) (k : K (.bool false) H)
  | isB (x y : Bool) (h : op = .Is) (ha : a = .bool x) (hb : b = .bool y) (k : K (.bool (x == y)) H)
  | isnt (h : op = .IsNot) (hb : b = .none) (ha : a = .none) (k : K (.bool false) H)
  | isntNo (h : op = .IsNot) (hb : b = .none) (ha : isSome a = true) (k : K (.bool true) H)
  | isntB (x y : Bool) (h : op = .IsNot) (ha : a = .bool x) (hb : b = .bool y) (k : K (.bool (!(x == y))) H)
  | lt (x y : Int) (h : op = .Lt) (ha : a = .int x) (hb : b = .int y) (k : K (.bool (decide (x < y))) H)
  | le (x y : Int) (h : op = .LtE) (ha : a = .int x) (hb : b = .int y) (k : K (.bool (decide (x ≤ y))) H)
  | leS (x y : Str) (h : op = .LtE) (ha : a = .str x) (hb : b = .str y) (k : K (.bool (!(decide (y.cps.toList < x.cps.toList)))) H)
  | gt (x y : Int) (h : op = .Gt) (ha : a = .int x) (hb : b = .int y) (k : K (.bool (decide (y < x))) H)
  | ge (x y : Int) (h : op = .GtE) (ha : a = .int x) (hb : b = .int y) (k : K (.bool (decide (y ≤ x))) H)
  | inT (l : List PV) (r : Bool) (h : op = .In) (hb : b = .tup l) (g : l.length ≤ 1000) (e : anyIn H a l = some r) (k : K (.bool r) H)
  | inL (j : Nat) (l : List PV) (r : Bool) (h : op = .In) (hb : b = .obj j) (g : H.get j = some (.list l)) (e : anyIn H a l = some r) (k : K (.bool r) H)
  | inS (x y : Str) (h : op = .In) (ha : a = .str x) (hb : b = .str y) (k : K (.bool (Txt.contains y x)) H)
  | ninT (l : List PV) (r : Bool) (h : op = .NotIn) (hb : b = .tup l) (g : l.length ≤ 1000) (e : anyIn H a l = some r) (k : K (.bool (!r)) H)
  | ninL (j : Nat) (l : List PV) (r : Bool) (h : op = .NotIn) (hb : b = .obj j) (g : H.get j = some (.list l)) (e : anyIn H a l = some r) (k : K (.bool (!r)) H)
noncomputable def chainC (a : PV) : List CmpOp → List (CM PV) → CM PV
  | [op], [m] => bindC m fun b => CmpC op a b
  | op :: op2 :: ops, m :: ms => bindC m fun b => bindC (CmpC op a b) fun c => bindC (truthC c) fun t => condC t (chainC b (op2 :: ops) ms) (pureC c)
  | _, _ => failC
noncomputable def okAttr (C : Addr) (a : Str) : Bool := match cls C with
  | some ci => ci.attrs.contains a
  | none => false
noncomputable def noRaw : PV → Bool
  | .raw _ => false
  | _ => true
inductive AttrC (o : PV) (a : Str) (K : KV) (H : PH) : Prop
  | mk (i : Nat) (C : Addr) (fs : List (Str × PV)) (v : PV) (ho : o = .obj i) (g : H.get i = some (.inst C fs)) (ok : okAttr C a = true) (e : fs.lookup a = some v) (k : K v H)
noncomputable def putF (x : Str) (v : PV) : List (Str × PV) → List (Str × PV)
  | [] => [(x, v)]
  | (y, u) :: r => if y = x then (y, v) :: r else (y, u) :: putF x v r
noncomputable def okSet (C : Addr) (a : Str) (fs : List (Str × PV)) : Bool := okAttr C a && decide (fs.length < 100)
inductive SetAttrC (o : PV) (a : Str) (v : PV) (K : Unit → PH → Prop) (H : PH) : Prop
  | mk (i : Nat) (C : Addr) (fs : List (Str × PV)) (ho : o = .obj i) (g : H.get i = some (.inst C fs)) (ok : okSet C a fs = true) (nr : noRaw v = true) (k : K () (H.set i (.inst C (putF a v fs))))
inductive SubsC (o i : PV) (K : KV) (H : PH) : Prop
  | list (j : Nat) (l : List PV) (k : Int) (v : PV) (ho : o = .obj j) (hi : i = .int k) (b : 0 ≤ k ∧ k < 1000) (g : H.get j = some (.list l)) (e : l[k.toNat]? = some v) (q : K v H)
  | tup (l : List PV) (k : Int) (v : PV) (ho : o = .tup l) (hi : i = .int k) (b : 0 ≤ k ∧ k < 1000) (n : l.length ≤ 1000) (e : l[k.toNat]? = some v) (q : K v H)
  | ints (l : List Int) (k : Int) (v : Int) (ho : o = .ints l) (hi : i = .int k) (b : 0 ≤ k ∧ k < 1000) (e : l[k.toNat]? = some v) (q : K (.int v) H)
inductive SliceC (o u : PV) (K : KV) (H : PH) : Prop
  | list (j : Nat) (l : List PV) (k : Nat) (ho : o = .obj j) (hu : u = .int k) (g : H.get j = some (.list l)) (b : k ≤ l.length ∧ l.length ≤ 999) (q : K (.obj H.next) (H.push (.list (l.take k))))
  | tup (l : List PV) (k : Nat) (ho : o = .tup l) (hu : u = .int k) (b : k < l.length ∧ l.length ≤ 999) (q : K (.tup (l.take k)) H)
inductive SetItemC (o i v : PV) (K : Unit → PH → Prop) (H : PH) : Prop
  | mk (j : Nat) (l : List PV) (k : Nat) (ho : o = .obj j) (hi : i = .int k) (b : k < 1000) (g : H.get j = some (.list l)) (n : k < l.length) (q : K () (H.set j (.list (l.set k v))))
noncomputable def okE : Expr → Bool
  | .Set .. => false
  | .Starred .. => false
  | _ => true
noncomputable def noSuper : Expr → Bool
  | .Call (.Name _ _) [] [] _ => false
  | _ => true
noncomputable def bindN (sc : Scope) (ℓ : Loc) (x : Str) (v : PV) : Option Loc := match sc.names.lookup x with
  | some .local => some (ℓ.upd x v)
  | some .cell => some (ℓ.upd x v)
  | _ => none
noncomputable def isNameE : Expr → Bool
  | .Name .. => true
  | _ => false
noncomputable def namesOf : List Expr → List Str
  | [] => []
  | .Name x _ :: r => x :: namesOf r
  | _ :: r => namesOf r
noncomputable def okNB (sc : Scope) (x : Str) : Bool := sc.names.lookup x == some .local || sc.names.lookup x == some .cell
noncomputable def bindS : List Str → Loc → List PV → Option Loc
  | [], ℓ, [] => some ℓ
  | x :: xs, ℓ, v :: vs => bindS xs (ℓ.upd x v) vs
  | _, _, _ => none
noncomputable def unp2 (l : List PV) (K : PV → PV → PH → Prop) (H : PH) : Prop := match l with
  | [a, b] => K a b H
  | _ => False
noncomputable def unp3 (l : List PV) (K : PV → PV → PV → PH → Prop) (H : PH) : Prop := match l with
  | [a, b, c] => K a b c H
  | _ => False
noncomputable def unp4 (l : List PV) (K : PV → PV → PV → PV → PH → Prop) (H : PH) : Prop := match l with
  | [a, b, c, d] => K a b c d H
  | _ => False
noncomputable def bindX (xs : List Str) (ℓ : Loc) (l : List PV) : CM Loc := fun K H => match xs with
  | [x, y] => unp2 l (fun a b H => K ((ℓ.upd x a).upd y b) H) H
  | [x, y, z] => unp3 l (fun a b c H => K (((ℓ.upd x a).upd y b).upd z c) H) H
  | [x, y, z, u] => unp4 l (fun a b c d H => K ((((ℓ.upd x a).upd y b).upd z c).upd u d) H) H
  | _ => False
noncomputable def bindTup (sc : Scope) (ℓ : Loc) (es : List Expr) (l : List PV) : CM Loc := fun K H => cond (es.all isNameE && (namesOf es).all (okNB sc)) (bindX (namesOf es) ℓ l K H) False
inductive ItemsC (v : PV) (K : List PV → PH → Prop) (H : PH) : Prop
  | tup (l : List PV) (h : v = .tup l) (k : K l H)
  | list (j : Nat) (l : List PV) (h : v = .obj j) (g : H.get j = some (.list l)) (k : K l H)
inductive Src where
  | fixed (l : List PV)
  | lst (i : Nat) (l : List PV)
noncomputable def Src.chk (s : Src) (H : PH) : Prop := match s with
  | .fixed _ => True
  | .lst i l => H.get i = some (.list l)
noncomputable def enumL : Nat → List PV → List PV
  | _, [] => []
  | k, v :: r => .tup [.int k, v] :: enumL (k + 1) r
noncomputable def natsL (n : Nat) : List PV := (List.range n).map fun k : Nat => PV.int (k : Int)
noncomputable def charsL (s : Str) : List PV := s.cps.toList.map fun c => PV.str ⟨#[c]⟩
inductive SrcC (v : PV) (K : Src × List PV → PH → Prop) (H : PH) : Prop
  | tup (l : List PV) (h : v = .tup l) (n : l.length ≤ 1000) (k : K (.fixed l, l) H)
  | list (j : Nat) (l : List PV) (h : v = .obj j) (g : H.get j = some (.list l)) (n : l.length ≤ 1000) (k : K (.lst j l, l) H)
  | rng (m : Nat) (h : v = .rng m) (n : m ≤ 1000) (k : K (.fixed (natsL m), natsL m) H)
  | str (s : Str) (h : v = .str s) (n : s.length ≤ 1000) (k : K (.fixed (charsL s), charsL s) H)
inductive EnumC (v : PV) (K : Src × List PV → PH → Prop) (H : PH) : Prop
  | mk (j : Nat) (l : List PV) (h : v = .obj j) (g : H.get j = some (.list l)) (n : l.length ≤ 1000) (k : K (.lst j l, enumL 0 l) H)
noncomputable def loopF (s : Src) (f : PV → Loc → CM Loc) : List PV → Loc → CM Loc
  | [], ℓ, K, H => s.chk H ∧ K ℓ H
  | v :: r, ℓ, K, H => s.chk H ∧ f v ℓ (fun ℓ' H' => loopF s f r ℓ' K H') H
noncomputable def loopC (s : Src) (f : PV → Loc → CM (List PV × Loc)) : List PV → Loc → CM (List PV)
  | [], _, K, H => s.chk H ∧ K [] H
  | v :: r, ℓ, K, H => s.chk H ∧ f v ℓ (fun x H' => loopC s f r x.2 (fun l H'' => K (x.1 ++ l) H'') H') H
noncomputable def asgC (sc : Scope) (ev : Expr → CM PV) (ℓ : Loc) (v : PV) : Expr → CM Loc
  | .Name x _ => optC (bindN sc ℓ x v)
  | .Attribute o a _ => bindC (ev o) fun ov => bindC (SetAttrC ov a v) fun _ => pureC ℓ
  | .Subscript o i _ => bindC (ev o) fun ov => bindC (ev i) fun iv => bindC (SetItemC ov iv v) fun _ => pureC ℓ
  | .Tuple es _ _ => bindC (ItemsC v) fun l => bindTup sc ℓ es l
  | _ => failC
noncomputable def bindTgt (sc : Scope) (ℓ : Loc) (v : PV) : Expr → CM Loc
  | .Name x _ => optC (bindN sc ℓ x v)
  | .Tuple es _ _ => bindC (ItemsC v) fun l => bindTup sc ℓ es l
  | _ => failC
noncomputable def distinct : List Str → Bool
  | [] => true
  | x :: r => !r.contains x && distinct r
noncomputable def isCompE : Expr → Bool
  | .ListComp .. => true
  | .SetComp .. => true
  | .DictComp .. => true
  | _ => false
noncomputable def isPlainT : Expr → Bool
  | .Name .. => true
  | .Attribute .. => true
  | _ => false
noncomputable def swapOk : Expr → Expr → Bool
  | .Tuple ts _ _, .Tuple vs _ _ => !(vs.all (constantsAlone 8)) && distinct (namesOf ts)
  | t, e => !isCompE e || isPlainT t
noncomputable def compOk (sc csc : Scope) : Bool := csc.kind == .function && distinct (csc.names.map (·.1)) && csc.names.all fun x => x.2 != .cell && (x.2 != .local || csc.names.lookup x.1 == some .local) &&
  (x.2 != .free || sc.names.lookup x.1 == some .cell || sc.names.lookup x.1 == some .free)
noncomputable def joinP : List PV → Option (List Str)
  | [] => some []
  | .str s :: r => (joinP r).map (s :: ·)
  | _ => none
noncomputable def asciiP (s : Str) : Bool := s.cps.toList.all fun c => decide (c < 128)
noncomputable def lowP (s : Str) : Str := ⟨s.cps.map fun c => if 65 ≤ c ∧ c ≤ 90 then c + 32 else c⟩
noncomputable def uppP (s : Str) : Str := ⟨s.cps.map fun c => if 97 ≤ c ∧ c ≤ 122 then c - 32 else c⟩
inductive StrMC (s name : Str) (args : List PV) (K : KV) (H : PH) : Prop
  | lower (h : name = "lower") (ha : args = []) (g : asciiP s = true) (n : s.length ≤ 1000) (k : K (.str (lowP s)) H)
  | upper (h : name = "upper") (ha : args = []) (g : asciiP s = true) (n : s.length ≤ 1000) (k : K (.str (uppP s)) H)
  | strip (x : Str) (h : name = "strip") (ha : args = [.str x]) (n : s.length ≤ 1000) (k : K (.str (Txt.stripChars s x)) H)
  | join (j : Nat) (l : List PV) (ss : List Str) (h : name = "join") (ha : args = [.obj j]) (g : H.get j = some (.list l)) (e : joinP l = some ss) (n0 : s.length = 0) (n : ss.length ≤ 1000) (b : ss.all (fun x => decide (x.length ≤ 100)) = true) (k : K (.str (Str.join s ss)) H)
inductive LstMC (i : Nat) (name : Str) (args : List PV) (K : KV) (H : PH) : Prop
  | append (l : List PV) (v : PV) (h : name = "append") (ha : args = [v]) (g : H.get i = some (.list l)) (n : l.length < 1000) (k : K .none (H.set i (.list (l ++ [v]))))
  | pop (l : List PV) (m : Nat) (v : PV) (h : name = "pop") (ha : args = [.int m]) (g : H.get i = some (.list l)) (n : l.length ≤ 1000) (e : l[m]? = some v) (k : K v (H.set i (.list (l.eraseIdx m))))
noncomputable def reprP : PV → Option Str
  | .none => some "None"
  | .int 5 => some "5"
  | .str s => if s = "x y" then some "'x y'" else none
  | .bytes b => if b = #[122] then some "b'z'" else none
  | _ => none
noncomputable def tupAddrs : List PV → Option (List Addr)
  | [] => some []
  | .raw (.ref a) :: r => (tupAddrs r).map (a :: ·)
  | _ => none
noncomputable def clsAddrs : PV → Option (List Addr)
  | .raw (.ref a) => some [a]
  | .tup l => tupAddrs l
  | _ => none
noncomputable def isInst (C : Addr) (as : List Addr) : Option Bool := match cls C with
  | some ci => if as.all (fun a => (cls a).isSome) then some (as.any fun a => ci.mro.contains a) else none
  | none => none
inductive BuiltC (b : String) (args : List PV) (K : KV) (H : PH) : Prop
  | lenI (l : List Int) (h : b = "len") (ha : args = [.ints l]) (n : l.length ≤ 1000) (k : K (.int l.length) H)
  | len (j : Nat) (l : List PV) (h : b = "len") (ha : args = [.obj j]) (g : H.get j = some (.list l)) (n : l.length ≤ 1000) (k : K (.int l.length) H)
  | max (x y : Int) (h : b = "max") (ha : args = [.int x, .int y]) (k : K (.int (if x < y then y else x)) H)
  | min (x y : Int) (h : b = "min") (ha : args = [.int x, .int y]) (k : K (.int (if y < x then y else x)) H)
  | chr (x : Nat) (h : b = "chr") (ha : args = [.int x]) (n : x < 128) (k : K (.str ⟨#[x]⟩) H)
  | ord (c : Nat) (h : b = "ord") (ha : args = [.str ⟨#[c]⟩]) (k : K (.int c) H)
  | any (j : Nat) (h : b = "any") (ha : args = [.obj j]) (g : H.get j = some (.list [])) (k : K (.bool false) H)
  | repr (v : PV) (s : Str) (h : b = "repr") (ha : args = [v]) (e : reprP v = some s) (k : K (.str s) H)
  | inst (j : Nat) (c : PV) (C : Addr) (fs : List (Str × PV)) (as : List Addr) (r : Bool) (h : b = "isinstance") (ha : args = [.obj j, c]) (g : H.get j = some (.inst C fs)) (ec : clsAddrs c = some as) (e : isInst C as = some r) (k : K (.bool r) H)
inductive TypeC (t : String) (args : List PV) (K : KV) (H : PH) : Prop
  | range (m : Nat) (h : t = "range") (ha : args = [.int m]) (n : m ≤ 1000) (k : K (.rng m) H)
  | listR (m : Nat) (h : t = "list") (ha : args = [.rng m]) (n : m ≤ 1000) (k : K (.obj H.next) (H.push (.list (natsL m))))
  | list (j : Nat) (l : List PV) (h : t = "list") (ha : args = [.obj j]) (g : H.get j = some (.list l)) (n : l.length ≤ 1000) (k : K (.obj H.next) (H.push (.list l)))
  | int (b : Bool) (h : t = "int") (ha : args = [.bool b]) (k : K (.int (if b then 1 else 0)) H)
  | bool (v : PV) (h : t = "bool") (ha : args = [v]) (k : truthC v (fun b H => K (.bool b) H) H)
  | str (m : Nat) (h : t = "str") (ha : args = [.int m]) (n : m ≤ 1000) (k : K (.str (Str.ofString (toString (m : Int)))) H)
noncomputable def bindP : List Str → List PV → Nat → Option Loc
  | [], [], _ => some fun _ => none
  | x :: xs, v :: vs, k => (bindP xs vs k).map fun ℓ => ℓ.upd x v
  | x :: xs, [], k + 1 => (bindP xs [] k).map fun ℓ => ℓ.upd x .none
  | _, _, _ => none
structure Lv where
  ev : Scope → Loc → Expr → CM PV
  tr : Scope → Loc → Expr → CM Bool
  ex : Scope → Loc → Stmt → KV → CM Loc
  cl : Addr → List PV → CM PV
inductive CallC (r : Lv) (f : Addr) (args : List PV) (K : KV) (H : PH) : Prop
  | mk (k : r.cl f args K H)
noncomputable def callV (r : Lv) (f : PV) (args : List PV) : CM PV := fun K H => match f with
  | .raw (.builtin b) => BuiltC b args K H
  | .raw (.type t) => TypeC t args K H
  | .raw (.ref a) => CallC r a args K H
  | _ => False
noncomputable def calV (v : PV) : Option PV := match v with
  | .raw (.builtin _) => some v
  | .raw (.type _) => some v
  | .raw (.ref a) => if (fns a).isSome || (cls a).isSome then some v else none
  | _ => none
noncomputable def exL (ex : Loc → Stmt → KV → CM Loc) : List Stmt → Loc → KV → CM Loc
  | [], ℓ, _ => pureC ℓ
  | s :: r, ℓ, kr => bindC (ex ℓ s kr) fun ℓ' => exL ex r ℓ' kr
noncomputable def testsC (tr : Expr → CM Bool) : List Expr → CM Bool
  | [] => pureC true
  | c :: r => bindC (tr c) fun b => condC b (testsC tr r) (pureC false)
noncomputable def isEnum (sc : Scope) (x : Str) : Bool := decide (x = "enumerate") && decide (sc.names.lookup x = some .globalImplicit)
noncomputable def isTupE : Expr → Bool
  | .Tuple .. => true
  | _ => false
noncomputable def enumArg (sc : Scope) (t e : Expr) : Option Expr := match e with
  | .Call (.Name x _) [a] [] _ => if isEnum sc x && isTupE t && okE a then some a else none
  | _ => none
noncomputable def iterC (r : Lv) (sc : Scope) (ℓ : Loc) (t e : Expr) : CM (Src × List PV) := match enumArg sc t e with
  | some a => bindC (r.ev sc ℓ a) EnumC
  | none => if okE e then bindC (r.ev sc ℓ e) SrcC else failC
inductive Callee where
  | fn (f : Addr)
  | lst (i : Nat)
  | str (s : Str)
noncomputable def methOf (C : Addr) (a : Str) : Option Addr := match cls C with
  | some ci => ci.meths.lookup a
  | none => none
inductive CalleeC (o : PV) (name : Str) (K : Callee → PH → Prop) (H : PH) : Prop
  | inst (i : Nat) (C : Addr) (fs : List (Str × PV)) (f : Addr) (ho : o = .obj i) (g : H.get i = some (.inst C fs)) (nf : fs.lookup name = none) (e : methOf C name = some f) (k : K (.fn f) H)
  | list (i : Nat) (l : List PV) (ho : o = .obj i) (g : H.get i = some (.list l)) (n : name = "append" ∨ name = "pop") (k : K (.lst i) H)
  | str (s : Str) (ho : o = .str s) (n : name = "lower" ∨ name = "upper" ∨ name = "strip" ∨ name = "join") (k : K (.str s) H)
noncomputable def applyC (r : Lv) (ov : PV) (name : Str) (args : List PV) (c : Callee) : CM PV := fun K H => match c with
  | .fn f => CallC r f (ov :: args) K H
  | .lst i => LstMC i name args K H
  | .str s => StrMC s name args K H
noncomputable def freeN (csc : Scope) : List Str := csc.names.filterMap fun x => if x.2 == .free then some x.1 else none
noncomputable def locF (xs : List Str) (ℓ : Loc) : Loc := fun y => if xs.contains y then ℓ y else none
noncomputable def tupC (l : List PV) : CM PV := fun K H => l.length ≤ 1000 ∧ K (.tup l) H
noncomputable def evS (r : Lv) (sc : Scope) (ℓ : Loc) (e : Expr) : CM PV := match e with
  | .Constant c _ _ => optC (constP c)
  | .Name x _ => optC (nameP sc ℓ x)
  | .BoolOp op vs _ => boolC op (vs.map (r.ev sc ℓ))
  | .BinOp a op b _ => bindC (r.ev sc ℓ a) fun x => bindC (r.ev sc ℓ b) fun y => BinC op x y
  | .UnaryOp op a _ => bindC (r.ev sc ℓ a) fun x => UnC op x
  | .IfExp t b o _ => bindC (r.tr sc ℓ t) fun c => condC c (r.ev sc ℓ b) (r.ev sc ℓ o)
  | .List es _ => if es.all okE then bindC (seqC (es.map (r.ev sc ℓ))) allocC else failC
  | .Tuple es _ _ => if es.all okE then bindC (seqC (es.map (r.ev sc ℓ))) tupC else failC
  | .Compare a ops cs _ => if cs.all okE then bindC (r.ev sc ℓ a) fun x => chainC x ops (cs.map (r.ev sc ℓ)) else failC
  | .Call (.Attribute o name p) args [] q => if noSuper o && p.endLine == q.line && args.all okE && decide (args.length < 20) then
      bindC (r.ev sc ℓ o) fun ov => bindC (CalleeC ov name) fun c => bindC (seqC (args.map (r.ev sc ℓ))) fun vs => applyC r ov name vs c else failC
  | .Call (.Name f _) args [] _ => if args.all okE && decide (args.length < 20) then
      bindC (optC ((nameP sc ℓ f).bind calV)) fun fv => bindC (seqC (args.map (r.ev sc ℓ))) fun vs => callV r fv vs else failC
  | .Attribute o a _ => if noSuper o then bindC (r.ev sc ℓ o) fun ov => AttrC ov a else failC
  | .Subscript o (.Slice none (some u) none _) _ => bindC (r.ev sc ℓ o) fun ov => bindC (r.ev sc ℓ u) fun uv => SliceC ov uv
  | .Subscript o i _ => bindC (r.ev sc ℓ o) fun ov => bindC (r.ev sc ℓ i) fun iv => SubsC ov iv
  | .ListComp elt [g] csc _ => if g.is_async = 0 ∧ compOk sc csc = true then
      bindC (iterC r sc ℓ g.target g.iter) fun s =>
        bindC (loopC s.1 (fun v ℓ' => bindC (bindTgt csc ℓ' v g.target) fun ℓ'' => bindC (testsC (r.tr csc ℓ'') g.ifs) fun b =>
          condC b (bindC (r.ev csc ℓ'' elt) fun y => pureC ([y], ℓ'')) (pureC ([], ℓ''))) s.2
          (locF (freeN csc) ℓ)) allocC
    else failC
  | _ => failC
noncomputable def trS (r : Lv) (sc : Scope) (ℓ : Loc) (e : Expr) : CM Bool := match e with
  | .UnaryOp .Not x _ => bindC (r.tr sc ℓ x) fun b => condC b (pureC false) (pureC true)
  | .BoolOp op vs _ => allTrueC op (vs.map (r.tr sc ℓ))
  | .IfExp t b o _ => bindC (r.tr sc ℓ t) fun c => condC c (r.tr sc ℓ b) (r.tr sc ℓ o)
  | .Compare a ops cs _ => if cs.all okE then bindC (r.ev sc ℓ a) fun x => bindC (chainC x ops (cs.map (r.ev sc ℓ))) truthC else failC
  | e => bindC (r.ev sc ℓ e) truthC
noncomputable def noneC (v : PV) : CM Unit := fun K H => match v with
  | .none => K () H
  | _ => False
noncomputable def exS (r : Lv) (sc : Scope) (ℓ : Loc) (s : Stmt) (kr : KV) : CM Loc := match s with
  | .Assign [t] e _ => if swapOk t e then bindC (r.ev sc ℓ e) fun v => asgC sc (r.ev sc ℓ) ℓ v t else failC
  | .Expr (.Call f as ks p) _ => bindC (r.ev sc ℓ (.Call f as ks p)) fun v => bindC (noneC v) fun _ => pureC ℓ
  | .Return (some e) _ => fun _ H => r.ev sc ℓ e kr H
  | .Return none _ => fun _ H => kr .none H
  | .If t b o _ => bindC (r.tr sc ℓ t) fun c => condC c (exL (r.ex sc) b ℓ kr) (exL (r.ex sc) o ℓ kr)
  | .While t b [] p => bindC (r.tr sc ℓ t) fun c => condC c (bindC (exL (r.ex sc) b ℓ kr) fun ℓ' => r.ex sc ℓ' (.While t b [] p) kr) (pureC ℓ)
  | .For t it b [] _ => bindC (iterC r sc ℓ t it) fun s =>
      loopF s.1 (fun v ℓ' => bindC (bindTgt sc ℓ' v t) fun ℓ'' => exL (r.ex sc) b ℓ'' kr) s.2 ℓ
  | _ => failC
noncomputable def callFn (r : Lv) (fi : FnI) (args : List PV) : CM PV := fun K H => match bindP fi.params args fi.opt with
  | some ℓ => exL (r.ex fi.scope) fi.body ℓ K (fun _ H => K .none H) H
  | none => False
noncomputable def makeC (r : Lv) (C : Addr) (fi : FnI) (args : List PV) : CM PV := fun K H => callFn r fi (.obj H.next :: args) (fun v H' => noneC v (fun _ H'' => K (.obj H.next) H'') H') (H.push (.inst C []))
noncomputable def clS (r : Lv) (a : Addr) (args : List PV) : CM PV := match fns a with
  | some fi => callFn r fi args
  | none => match cls a with
    | some ci => match fns ci.init with
      | some fi => makeC r a fi args
      | none => failC
    | none => failC
noncomputable def lv : Nat → Lv
  | 0 => ⟨fun _ _ _ => failC, fun _ _ _ => failC, fun _ _ _ _ => failC, fun _ _ => failC⟩
  | n + 1 => ⟨evS (lv n), trS (lv n), exS (lv n), clS (lv n)⟩
end Mine
namespace Mine
open PySem
noncomputable def noL : Loc := fun _ => none
noncomputable def st125 : Stmt := ((pf 125).body[1]?).getD (.Pass ⟨0, 0, 0, 0⟩)
noncomputable abbrev KL := Loc → PH → Prop
noncomputable abbrev KC := List PV × Loc → PH → Prop
noncomputable abbrev SL := Src × List PV
noncomputable abbrev KU := PH → Prop
noncomputable def testC (v : PV) (A B : KU) (H : PH) : Prop := truthC v (fun t H => cond t (A H) (B H)) H
noncomputable def CmpT (op : CmpOp) (x y : PV) (A B : KU) (H : PH) : Prop := CmpC op x y (fun v H => testC v A B H) H
noncomputable abbrev unitK (K : KU) (_u : Unit) (H : PH) := K H
noncomputable abbrev attrK (a : Str) (K : KV) (v : PV) (H : PH) := AttrC v a K H
noncomputable abbrev srcK (K : SL → PH → Prop) (v : PV) (H : PH) := SrcC v K H
noncomputable abbrev enumK (K : SL → PH → Prop) (v : PV) (H : PH) := EnumC v K H
noncomputable abbrev itemsK (K : List PV → PH → Prop) (v : PV) (H : PH) := ItemsC v K H
noncomputable abbrev testK (A B : KU) (v : PV) (H : PH) := testC v A B H
noncomputable abbrev noneK (K : Unit → PH → Prop) (v : PV) (H : PH) := noneC v K H
noncomputable abbrev allocK (K : KV) (l : List PV) (H : PH) := allocC l K H
noncomputable abbrev subsK (i : PV) (K : KV) (v : PV) (H : PH) := SubsC v i K H
noncomputable abbrev calleeK (a : Str) (K : Callee → PH → Prop) (v : PV) (H : PH) := CalleeC v a K H
noncomputable abbrev unp2K (K : PV → PV → PH → Prop) (l : List PV) (H : PH) := unp2 l K H
noncomputable abbrev unp3K (K : PV → PV → PV → PH → Prop) (l : List PV) (H : PH) := unp3 l K H
noncomputable abbrev unp4K (K : PV → PV → PV → PV → PH → Prop) (l : List PV) (H : PH) := unp4 l K H
noncomputable abbrev binK (op : Operator) (y : PV) (K : KV) (v : PV) (H : PH) := BinC op v y K H
noncomputable abbrev cmpK (op : CmpOp) (y : PV) (K : KV) (v : PV) (H : PH) := CmpC op v y K H
noncomputable abbrev cmpTK (op : CmpOp) (y : PV) (A B : KU) (v : PV) (H : PH) := CmpT op v y A B H
noncomputable abbrev builtK (b : String) (K : KV) (v : PV) (H : PH) := BuiltC b [v] K H
noncomputable abbrev typeK (b : String) (K : KV) (v : PV) (H : PH) := TypeC b [v] K H
noncomputable abbrev fold0 (kc : KC) (ℓ3 : Loc) (v2 v4 : PV) (H : PH) := kc ([v4], (ℓ3.upd "sign" v2)) H
noncomputable abbrev fold1 (kc : KC) (v2 : PV) (ℓ3 : Loc) (v9 : PV) (H : PH) := testC v9 (CmpC .LtE v2 (.str "Z") (testK (BuiltC "ord" [v2] (binK .Add (.int 32) (builtK "chr" (fold0 kc ℓ3 v2)))) ((fold0 kc ℓ3 v2) v2))) ((testK (BuiltC "ord" [v2] (binK .Add (.int 32) (builtK "chr" (fold0 kc ℓ3 v2)))) ((fold0 kc ℓ3 v2) v2)) v9) H
noncomputable abbrev fold2 (v2 : PV) (ℓ3 : Loc) (kc : KC) (H : PH) := CmpC .LtE (.str "A") v2 (fold1 kc v2 ℓ3) H
noncomputable abbrev fold3 (n : Nat) (Q : KV) (c0 : Callee) (v12 : PV) (H : PH) := applyC (lv (n + 11)) (.str "") "join" [v12] c0 Q H
noncomputable abbrev fold4 (n : Nat) (Q : KV) (p_name : PV) (c0 : Callee) (s1 : SL) (H : PH) := loopC s1.1 fold2 s1.2 (locF [] (noL.upd "name" p_name)) (allocK (fold3 n Q c0)) H
noncomputable abbrev fold5 (n : Nat) (Q : KV) (p_name : PV) (c0 : Callee) (H : PH) := SrcC p_name (fold4 n Q p_name c0) H
noncomputable abbrev fold_ (n : Nat) (Q : KV) (p_name : PV) (H : PH) := CalleeC (.str "") "join" (fold5 n Q p_name) H
theorem fold_c {n : Nat} {Q : KV} {p_name : PV} {H : PH} (h : fold_ n Q p_name H) : CallC (lv (n + 14)) 617 [p_name] Q H := ⟨Eq.mpr (by kernel_rfl) h⟩
noncomputable abbrev chi0 (Q : KV) (v0 : PV) (H : PH) := allocC [v0] Q H
noncomputable abbrev chi1 (Q : KV) (v2 v3 : PV) (H : PH) := allocC [v2, v3] Q H
noncomputable abbrev chi2 (Q : KV) (p_expr v2 : PV) (H : PH) := AttrC p_expr "right" (chi1 Q v2) H
noncomputable abbrev chi3 (Q : KV) (v5 v6 v7 : PV) (H : PH) := allocC [v5, v6, v7] Q H
noncomputable abbrev chi4 (Q : KV) (p_expr v5 v6 : PV) (H : PH) := AttrC p_expr "high" (chi3 Q v5 v6) H
noncomputable abbrev chi5 (Q : KV) (p_expr v5 : PV) (H : PH) := AttrC p_expr "low" (chi4 Q p_expr v5) H
noncomputable abbrev chi6 (Q : KV) (v10 v12 : PV) (H : PH) := BinC .Add v10 v12 Q H
noncomputable abbrev chi7 (Q : KV) (p_expr v10 : PV) (H : PH) := AttrC p_expr "items" (typeK "list" (chi6 Q v10)) H
noncomputable abbrev chi8 (Q : KV) (p_expr v9 : PV) (H : PH) := allocC [v9] (chi7 Q p_expr) H
noncomputable abbrev chi9 (n : Nat) (k : KL) (v25 v21 : PV) (ℓ18 : Loc) (v20 : PV) (c26 : Callee) (H : PH) := applyC (lv (n + 7)) v25 "append" [v21] c26 (noneK (unitK (k ((ℓ18.upd "when" v20).upd "then" v21)))) H
noncomputable abbrev chi10 (n : Nat) (k : KL) (v21 : PV) (ℓ18 : Loc) (v20 v25 : PV) (H : PH) := CalleeC v25 "append" (chi9 n k v25 v21 ℓ18 v20) H
noncomputable abbrev chi11 (n : Nat) (k : KL) (v22 v20 : PV) (ℓ18 : Loc) (v21 : PV) (c23 : Callee) (H : PH) := applyC (lv (n + 7)) v22 "append" [v20] c23 (noneK (unitK (optC (ℓ18 "found") (chi10 n k v21 ℓ18 v20)))) H
noncomputable abbrev chi12 (n : Nat) (k : KL) (v20 : PV) (ℓ18 : Loc) (v21 v22 : PV) (H : PH) := CalleeC v22 "append" (chi11 n k v22 v20 ℓ18 v21) H
noncomputable abbrev chi13 (n : Nat) (k : KL) (ℓ18 : Loc) (v20 v21 : PV) (H : PH) := optC (ℓ18 "found") (chi12 n k v20 ℓ18 v21) H
noncomputable abbrev chi14 (n : Nat) (v17 : PV) (ℓ18 : Loc) (k : KL) (H : PH) := ItemsC v17 (unp2K (chi13 n k ℓ18)) H
noncomputable abbrev chi15 (Q : KV) (v31 v34 : PV) (H : PH) := BinC .Add v31 v34 Q H
noncomputable abbrev chi16 (Q : KV) (v31 v33 : PV) (H : PH) := allocC [v33] (chi15 Q v31) H
noncomputable abbrev chi17 (Q : KV) (ℓ28 : Loc) (v31 : PV) (H : PH) := optC (ℓ28 "expr") (attrK "other" (chi16 Q v31)) H
noncomputable abbrev chi18 (Q : KV) (ℓ28 : Loc) (H : PH) := optC (ℓ28 "expr") (attrK "other" (cmpTK .Is .none (optC (ℓ28 "found") Q) (optC (ℓ28 "found") (chi17 Q ℓ28)))) H
noncomputable abbrev chi19 (n : Nat) (Q : KV) (p_expr v14 : PV) (s16 : SL) (H : PH) := loopF s16.1 (chi14 n) s16.2 ((noL.upd "expr" p_expr).upd "found" v14) (chi18 Q) H
noncomputable abbrev chi20 (n : Nat) (Q : KV) (p_expr v14 : PV) (H : PH) := AttrC p_expr "whens" (srcK (chi19 n Q p_expr v14)) H
noncomputable abbrev chi21 (n : Nat) (Q : KV) (p_expr v39 : PV) (H : PH) := allocC [v39] (chi20 n Q p_expr) H
noncomputable abbrev chi22 (Q : KV) (v46 v49 : PV) (H : PH) := BinC .Add v46 v49 Q H
noncomputable abbrev chi23 (Q : KV) (v46 v48 : PV) (H : PH) := allocC [v48] (chi22 Q v46) H
noncomputable abbrev chi24 (Q : KV) (p_expr v46 : PV) (H : PH) := AttrC p_expr "escape" (cmpTK .Is .none (Q v46) (AttrC p_expr "escape" (chi23 Q v46))) H
noncomputable abbrev chi25 (Q : KV) (v44 p_expr v45 : PV) (H : PH) := allocC [v44, v45] (chi24 Q p_expr) H
noncomputable abbrev chi26 (Q : KV) (p_expr v44 : PV) (H : PH) := AttrC p_expr "pattern" (chi25 Q v44 p_expr) H
noncomputable abbrev chi27 (Q : KV) (v52 : PV) (H : PH) := allocC [v52] Q H
noncomputable abbrev chi28 (Q : KV) (p_expr v55 : PV) (H : PH) := BuiltC "isinstance" [p_expr, v55] (testK (AttrC p_expr "value" (chi27 Q)) (allocC [] Q)) H
noncomputable abbrev chi_ (n : Nat) (Q : KV) (p_expr : PV) (H : PH) := BuiltC "isinstance" [p_expr, (.raw (.ref 196))] (testK (AttrC p_expr "operand" (chi0 Q)) (BuiltC "isinstance" [p_expr, (.raw (.ref 222))] (testK (AttrC p_expr "left" (chi2 Q p_expr)) (BuiltC "isinstance" [p_expr, (.raw (.ref 248))] (testK (AttrC p_expr "value" (chi5 Q p_expr)) (BuiltC "isinstance" [p_expr, (.raw (.ref 274))] (testK (AttrC p_expr "value" (chi8 Q p_expr)) (BuiltC "isinstance" [p_expr, (.raw (.ref 376))] (testK (AttrC p_expr "base" (cmpTK .Is .none (allocC [] (chi20 n Q p_expr)) (AttrC p_expr "base" (chi21 n Q p_expr)))) (BuiltC "isinstance" [p_expr, (.raw (.ref 402))] (testK (AttrC p_expr "arguments" (typeK "list" Q)) (BuiltC "isinstance" [p_expr, (.raw (.ref 506))] (testK (AttrC p_expr "value" (chi26 Q p_expr)) (tupC [(.raw (.ref 300)), (.raw (.ref 428)), (.raw (.ref 454)), (.raw (.ref 480))] (chi28 Q p_expr))))))))))))))) H
theorem chi_c {n : Nat} {Q : KV} {p_expr : PV} {H : PH} (h : chi_ n Q p_expr H) : CallC (lv (n + 12)) 624 [p_expr] Q H := ⟨Eq.mpr (by kernel_rfl) h⟩
noncomputable abbrev iagg0 (H : PH) := False
noncomputable abbrev iagg1 (Q : KV) (v1 : PV) (H : PH) := testC v1 iagg0 (Q v1) H
noncomputable abbrev iagg_ (n : Nat) (Q : KV) (p_expr : PV) (H : PH) := BuiltC "isinstance" [p_expr, (.raw (.ref 402))] (iagg1 Q) H
theorem iagg_c {n : Nat} {Q : KV} {p_expr : PV} {H : PH} (h : iagg_ n Q p_expr H) : CallC (lv (n + 12)) 631 [p_expr] Q H := ⟨Eq.mpr (by kernel_rfl) h⟩
noncomputable abbrev agg0 (k : KL) (ℓ6 : Loc) (v5 v9 : PV) (H : PH) := k ((ℓ6.upd "child" v5).upd "found" v9) H
noncomputable abbrev agg1 (k : KL) (v7 : PV) (ℓ6 : Loc) (v5 v8 : PV) (H : PH) := BinC .Add v7 v8 (agg0 k ℓ6 v5) H
noncomputable abbrev agg2 (n : Nat) (k : KL) (v5 : PV) (ℓ6 : Loc) (v7 : PV) (H : PH) := CallC (lv (n + 15)) 638 [v5] (agg1 k v7 ℓ6 v5) H
noncomputable abbrev agg3 (n : Nat) (v5 : PV) (ℓ6 : Loc) (k : KL) (H : PH) := optC (ℓ6 "found") (agg2 n k v5 ℓ6) H
noncomputable abbrev agg4 (Q : KV) (ℓ10 : Loc) (H : PH) := optC (ℓ10 "found") Q H
noncomputable abbrev agg5 (n : Nat) (Q : KV) (p_expr v2 : PV) (s4 : SL) (H : PH) := loopF s4.1 (agg3 n) s4.2 ((noL.upd "expr" p_expr).upd "found" v2) (agg4 Q) H
noncomputable abbrev agg6 (n : Nat) (Q : KV) (p_expr v2 : PV) (H : PH) := CallC (lv (n + 17)) 624 [p_expr] (srcK (agg5 n Q p_expr v2)) H
noncomputable abbrev agg_ (n : Nat) (Q : KV) (p_expr : PV) (H : PH) := CmpT .Is p_expr .none (allocC [] Q) (CallC (lv (n + 16)) 631 [p_expr] (testK (allocC [p_expr] Q) (allocC [] (agg6 n Q p_expr)))) H
theorem agg_c {n : Nat} {Q : KV} {p_expr : PV} {H : PH} (h : agg_ n Q p_expr H) : CallC (lv (n + 20)) 638 [p_expr] Q H := ⟨Eq.mpr (by kernel_rfl) h⟩
noncomputable abbrev subq0 (kc : KC) (ℓ3 : Loc) (v2 v4 : PV) (H : PH) := kc ([v4], (ℓ3.upd "child" v2)) H
noncomputable abbrev subq1 (n : Nat) (v2 : PV) (ℓ3 : Loc) (kc : KC) (H : PH) := CallC (lv (n + 15)) 643 [v2] (subq0 kc ℓ3 v2) H
noncomputable abbrev subq2 (n : Nat) (Q : KV) (p_expr : PV) (s1 : SL) (H : PH) := loopC s1.1 (subq1 n) s1.2 (locF [] (noL.upd "expr" p_expr)) (allocK (builtK "any" Q)) H
noncomputable abbrev subq3 (n : Nat) (Q : KV) (p_expr v8 : PV) (H : PH) := BuiltC "isinstance" [p_expr, v8] (testK (Q (.bool true)) (CallC (lv (n + 15)) 624 [p_expr] (srcK (subq2 n Q p_expr)))) H
noncomputable abbrev subq_ (n : Nat) (Q : KV) (p_expr : PV) (H : PH) := tupC [(.raw (.ref 300)), (.raw (.ref 326)), (.raw (.ref 352))] (subq3 n Q p_expr) H
theorem subq_c {n : Nat} {Q : KV} {p_expr : PV} {H : PH} (h : subq_ n Q p_expr H) : CallC (lv (n + 20)) 643 [p_expr] Q H := ⟨Eq.mpr (by kernel_rfl) h⟩
noncomputable abbrev nam0 (k : KL) (ℓ5 : Loc) (v4 v8 : PV) (H : PH) := k ((ℓ5.upd "child" v4).upd "found" v8) H
noncomputable abbrev nam1 (k : KL) (v6 : PV) (ℓ5 : Loc) (v4 v7 : PV) (H : PH) := BinC .Add v6 v7 (nam0 k ℓ5 v4) H
noncomputable abbrev nam2 (n : Nat) (k : KL) (v4 : PV) (ℓ5 : Loc) (v6 : PV) (H : PH) := CallC (lv (n + 15)) 650 [v4] (nam1 k v6 ℓ5 v4) H
noncomputable abbrev nam3 (n : Nat) (v4 : PV) (ℓ5 : Loc) (k : KL) (H : PH) := optC (ℓ5 "found") (nam2 n k v4 ℓ5) H
noncomputable abbrev nam4 (Q : KV) (ℓ9 : Loc) (H : PH) := optC (ℓ9 "found") Q H
noncomputable abbrev nam5 (n : Nat) (Q : KV) (p_expr v1 : PV) (s3 : SL) (H : PH) := loopF s3.1 (nam3 n) s3.2 ((noL.upd "expr" p_expr).upd "found" v1) (nam4 Q) H
noncomputable abbrev nam6 (n : Nat) (Q : KV) (p_expr v1 : PV) (H : PH) := CallC (lv (n + 17)) 624 [p_expr] (srcK (nam5 n Q p_expr v1)) H
noncomputable abbrev nam_ (n : Nat) (Q : KV) (p_expr : PV) (H : PH) := BuiltC "isinstance" [p_expr, (.raw (.ref 170))] (testK (allocC [p_expr] Q) (allocC [] (nam6 n Q p_expr))) H
theorem nam_c {n : Nat} {Q : KV} {p_expr : PV} {H : PH} (h : nam_ n Q p_expr H) : CallC (lv (n + 20)) 650 [p_expr] Q H := ⟨Eq.mpr (by kernel_rfl) h⟩
noncomputable abbrev foa0 (n : Nat) (k : KL) (v4 : PV) (c5 : Callee) (ℓ3 : Loc) (v2 v8 : PV) (H : PH) := applyC (lv (n + 9)) v4 "append" [v8] c5 (noneK (unitK (k (ℓ3.upd "sign" v2)))) H
noncomputable abbrev foa1 (n : Nat) (k : KL) (v2 v4 : PV) (ℓ3 : Loc) (c5 : Callee) (H : PH) := BuiltC "ord" [v2] (binK .Add (.int 32) (builtK "chr" (foa0 n k v4 c5 ℓ3 v2))) H
noncomputable abbrev foa2 (n : Nat) (k : KL) (v2 : PV) (ℓ3 : Loc) (v4 : PV) (H : PH) := CalleeC v4 "append" (foa1 n k v2 v4 ℓ3) H
noncomputable abbrev foa3 (n : Nat) (k : KL) (v10 v2 : PV) (ℓ3 : Loc) (c11 : Callee) (H : PH) := applyC (lv (n + 9)) v10 "append" [v2] c11 (noneK (unitK (k (ℓ3.upd "sign" v2)))) H
noncomputable abbrev foa4 (n : Nat) (k : KL) (v2 : PV) (ℓ3 : Loc) (v10 : PV) (H : PH) := CalleeC v10 "append" (foa3 n k v10 v2 ℓ3) H
noncomputable abbrev foa5 (n : Nat) (k : KL) (v2 : PV) (ℓ3 : Loc) (v14 : PV) (H : PH) := testC v14 (CmpC .LtE v2 (.str "Z") (testK (optC (ℓ3 "signs") (foa2 n k v2 ℓ3)) (optC (ℓ3 "signs") (foa4 n k v2 ℓ3)))) ((testK (optC (ℓ3 "signs") (foa2 n k v2 ℓ3)) (optC (ℓ3 "signs") (foa4 n k v2 ℓ3))) v14) H
noncomputable abbrev foa6 (n : Nat) (v2 : PV) (ℓ3 : Loc) (k : KL) (H : PH) := CmpC .LtE (.str "A") v2 (foa5 n k v2 ℓ3) H
noncomputable abbrev foa7 (n : Nat) (Q : KV) (c17 : Callee) (v18 : PV) (H : PH) := applyC (lv (n + 11)) (.str "") "join" [v18] c17 Q H
noncomputable abbrev foa8 (n : Nat) (Q : KV) (ℓ16 : Loc) (c17 : Callee) (H : PH) := optC (ℓ16 "signs") (foa7 n Q c17) H
noncomputable abbrev foa9 (n : Nat) (Q : KV) (ℓ16 : Loc) (H : PH) := CalleeC (.str "") "join" (foa8 n Q ℓ16) H
noncomputable abbrev foa10 (n : Nat) (Q : KV) (p_text v0 : PV) (s1 : SL) (H : PH) := loopF s1.1 (foa6 n) s1.2 ((noL.upd "text" p_text).upd "signs" v0) (foa9 n Q) H
noncomputable abbrev foa11 (n : Nat) (Q : KV) (p_text v0 : PV) (H : PH) := SrcC p_text (foa10 n Q p_text v0) H
noncomputable abbrev foa_ (n : Nat) (Q : KV) (p_text : PV) (H : PH) := allocC [] (foa11 n Q p_text) H
theorem foa_c {n : Nat} {Q : KV} {p_text : PV} {H : PH} (h : foa_ n Q p_text H) : CallC (lv (n + 14)) 657 [p_text] Q H := ⟨Eq.mpr (by kernel_rfl) h⟩
noncomputable abbrev aff0 (Q : KV) (k : KL) (v3 : PV) (ℓ4 : Loc) (v5 : PV) (H : PH) := CmpT .In v3 v5 (Q (.str "text")) (k (ℓ4.upd "part" v3)) H
noncomputable abbrev aff1 (Q : KV) (v3 : PV) (ℓ4 : Loc) (k : KL) (H : PH) := optC (ℓ4 "name") (aff0 Q k v3 ℓ4) H
noncomputable abbrev aff2 (Q : KV) (v7 : PV) (H : PH) := CmpT .In (.str "blob") v7 (Q (.str "blob")) (Q (.str "numeric")) H
noncomputable abbrev aff3 (Q : KV) (ℓ6 : Loc) (H : PH) := optC (ℓ6 "name") (aff2 Q) H
noncomputable abbrev aff4 (Q : KV) (p_type_name v0 : PV) (s2 : SL) (H : PH) := loopF s2.1 (aff1 Q) s2.2 ((noL.upd "type_name" p_type_name).upd "name" v0) (aff3 Q) H
noncomputable abbrev aff5 (Q : KV) (p_type_name v0 : PV) (H : PH) := CmpT .In (.str "int") v0 (Q (.str "integer")) (tupC [(.str "char"), (.str "clob"), (.str "text")] (srcK (aff4 Q p_type_name v0))) H
noncomputable abbrev aff6 (n : Nat) (Q : KV) (p_type_name : PV) (c8 : Callee) (H : PH) := applyC (lv (n + 17)) p_type_name "strip" [(.str " \t\n\x0b\x0c\x0d")] c8 (cmpTK .Eq (.str "") (Q (.str "blob")) (CallC (lv (n + 19)) 657 [p_type_name] (aff5 Q p_type_name))) H
noncomputable abbrev aff_ (n : Nat) (Q : KV) (p_type_name : PV) (H : PH) := CmpT .Is p_type_name .none (Q (.str "blob")) (CalleeC p_type_name "strip" (aff6 n Q p_type_name)) H
theorem aff_c {n : Nat} {Q : KV} {p_type_name : PV} {H : PH} (h : aff_ n Q p_type_name H) : CallC (lv (n + 22)) 664 [p_type_name] Q H := ⟨Eq.mpr (by kernel_rfl) h⟩
noncomputable abbrev iCol0 (Q : KV) (p_self v0 : PV) (H : PH) := SetAttrC p_self "affinity" v0 (unitK (SetAttrC p_self "collation" (.str "binary") (unitK (SetAttrC p_self "not_null" (.bool false) (unitK (SetAttrC p_self "default" .none (unitK (Q .none)))))))) H
noncomputable abbrev iCol_ (n : Nat) (Q : KV) (p_self p_name p_type_name : PV) (H : PH) := SetAttrC p_self "name" p_name (unitK (SetAttrC p_self "type_name" p_type_name (unitK (CallC (lv (n + 25)) 664 [p_type_name] (iCol0 Q p_self))))) H
theorem iCol_c {n : Nat} {Q : KV} {p_self p_name p_type_name : PV} {H : PH} (h : iCol_ n Q p_self p_name p_type_name H) : CallC (lv (n + 28)) 681 [p_self, p_name, p_type_name] Q H := ⟨Eq.mpr (by kernel_rfl) h⟩
noncomputable abbrev iInd_ (n : Nat) (Q : KV) (p_self p_name p_table p_root p_columns p_unique p_origin p_sql : PV) (H : PH) := SetAttrC p_self "name" p_name (unitK (SetAttrC p_self "table" p_table (unitK (SetAttrC p_self "root" p_root (unitK (SetAttrC p_self "columns" p_columns (unitK (SetAttrC p_self "unique" p_unique (unitK (SetAttrC p_self "origin" p_origin (unitK (SetAttrC p_self "sql" p_sql (unitK (Q .none)))))))))))))) H
theorem iInd_c {n : Nat} {Q : KV} {p_self p_name p_table p_root p_columns p_unique p_origin p_sql : PV} {H : PH} (h : iInd_ n Q p_self p_name p_table p_root p_columns p_unique p_origin p_sql H) : CallC (lv (n + 6)) 702 [p_self, p_name, p_table, p_root, p_columns, p_unique, p_origin, p_sql] Q H := ⟨Eq.mpr (by kernel_rfl) h⟩
noncomputable abbrev pls0 (kc : KC) (ℓ3 : Loc) (v5 v6 v7 : PV) (H : PH) := kc ([v5], (((ℓ3.upd "place" v5).upd "collation" v6).upd "descending" v7)) H
noncomputable abbrev pls1 (v2 : PV) (ℓ3 : Loc) (kc : KC) (H : PH) := ItemsC v2 (unp3K (pls0 kc ℓ3)) H
noncomputable abbrev pls2 (Q : KV) (p_self : PV) (s1 : SL) (H : PH) := loopC s1.1 pls1 s1.2 (locF [] (noL.upd "self" p_self)) (allocK Q) H
noncomputable abbrev pls_ (n : Nat) (Q : KV) (p_self : PV) (H : PH) := AttrC p_self "columns" (srcK (pls2 Q p_self)) H
theorem pls_c {n : Nat} {Q : KV} {p_self : PV} {H : PH} (h : pls_ n Q p_self H) : CallC (lv (n + 8)) 714 [p_self] Q H := ⟨Eq.mpr (by kernel_rfl) h⟩
noncomputable abbrev iTab0 (Q : KV) (p_self v2 : PV) (H : PH) := SetAttrC p_self "primary" v2 (unitK (Q .none)) H
noncomputable abbrev iTab1 (Q : KV) (p_self p_sql v1 : PV) (H : PH) := SetAttrC p_self "checks" v1 (unitK (SetAttrC p_self "sql" p_sql (unitK (allocC [] (iTab0 Q p_self))))) H
noncomputable abbrev iTab2 (Q : KV) (p_self p_sql v0 : PV) (H : PH) := SetAttrC p_self "indexes" v0 (unitK (allocC [] (iTab1 Q p_self p_sql))) H
noncomputable abbrev iTab_ (n : Nat) (Q : KV) (p_self p_name p_root p_columns p_sql : PV) (H : PH) := SetAttrC p_self "name" p_name (unitK (SetAttrC p_self "root" p_root (unitK (SetAttrC p_self "columns" p_columns (unitK (SetAttrC p_self "rowid_place" .none (unitK (allocC [] (iTab2 Q p_self p_sql))))))))) H
theorem iTab_c {n : Nat} {Q : KV} {p_self p_name p_root p_columns p_sql : PV} {H : PH} (h : iTab_ n Q p_self p_name p_root p_columns p_sql H) : CallC (lv (n + 8)) 735 [p_self, p_name, p_root, p_columns, p_sql] Q H := ⟨Eq.mpr (by kernel_rfl) h⟩
noncomputable abbrev plo0 (Q : KV) (k : KL) (v11 v5 : PV) (ℓ6 : Loc) (v12 : PV) (H : PH) := CmpT .Eq v11 v12 (Q v5) (k (ℓ6.upd "place" v5)) H
noncomputable abbrev plo1 (Q : KV) (k : KL) (ℓ6 : Loc) (v5 v11 : PV) (H : PH) := optC (ℓ6 "wanted") (plo0 Q k v11 v5 ℓ6) H
noncomputable abbrev plo2 (n : Nat) (Q : KV) (k : KL) (ℓ6 : Loc) (v5 v10 : PV) (H : PH) := CallC (lv (n + 19)) 617 [v10] (plo1 Q k ℓ6 v5) H
noncomputable abbrev plo3 (n : Nat) (Q : KV) (v5 : PV) (ℓ6 : Loc) (k : KL) (H : PH) := optC (ℓ6 "self") (attrK "columns" (subsK v5 (attrK "name" (plo2 n Q k ℓ6 v5)))) H
noncomputable abbrev plo4 (Q : KV) (ℓ13 : Loc) (H : PH) := optC (ℓ13 "wanted") (cmpTK .In (.tup [.str "rowid", .str "oid", .str "_rowid_"]) (UnC .USub (.int 1) Q) (Q .none)) H
noncomputable abbrev plo5 (n : Nat) (Q : KV) (p_name p_self v0 : PV) (s4 : SL) (H : PH) := loopF s4.1 (plo3 n Q) s4.2 (((noL.upd "name" p_name).upd "self" p_self).upd "wanted" v0) (plo4 Q) H
noncomputable abbrev plo6 (n : Nat) (Q : KV) (p_self p_name v0 : PV) (H : PH) := AttrC p_self "columns" (builtK "len" (typeK "range" (srcK (plo5 n Q p_name p_self v0)))) H
noncomputable abbrev plo_ (n : Nat) (Q : KV) (p_self p_name : PV) (H : PH) := CallC (lv (n + 21)) 617 [p_name] (plo6 n Q p_self p_name) H
theorem plo_c {n : Nat} {Q : KV} {p_self p_name : PV} {H : PH} (h : plo_ n Q p_self p_name H) : CallC (lv (n + 24)) 742 [p_self, p_name] Q H := ⟨Eq.mpr (by kernel_rfl) h⟩
noncomputable abbrev afs0 (kc : KC) (ℓ3 : Loc) (v2 v4 : PV) (H : PH) := kc ([v4], (ℓ3.upd "column" v2)) H
noncomputable abbrev afs1 (v2 : PV) (ℓ3 : Loc) (kc : KC) (H : PH) := AttrC v2 "affinity" (afs0 kc ℓ3 v2) H
noncomputable abbrev afs2 (Q : KV) (p_self : PV) (s1 : SL) (H : PH) := loopC s1.1 afs1 s1.2 (locF [] (noL.upd "self" p_self)) (allocK Q) H
noncomputable abbrev afs_ (n : Nat) (Q : KV) (p_self : PV) (H : PH) := AttrC p_self "columns" (srcK (afs2 Q p_self)) H
theorem afs_c {n : Nat} {Q : KV} {p_self : PV} {H : PH} (h : afs_ n Q p_self H) : CallC (lv (n + 8)) 747 [p_self] Q H := ⟨Eq.mpr (by kernel_rfl) h⟩
noncomputable abbrev cco0 (H : PH) := False
noncomputable abbrev cco_ (n : Nat) (Q : KV) (p_name : PV) (H : PH) := CallC (lv (n + 20)) 617 [p_name] (cmpTK .NotIn (.tup [.str "binary", .str "nocase", .str "rtrim"]) cco0 (CallC (lv (n + 21)) 617 [p_name] Q)) H
theorem cco_c {n : Nat} {Q : KV} {p_name : PV} {H : PH} (h : cco_ n Q p_name H) : CallC (lv (n + 24)) 768 [p_name] Q H := ⟨Eq.mpr (by kernel_rfl) h⟩
noncomputable abbrev cde0 (H : PH) := False
noncomputable abbrev cde1 (H : PH) := False
noncomputable abbrev cde2 (n : Nat) (Q : KV) (v1 p_expr v2 : PV) (H : PH) := CmpT .NotEq v1 v2 cde1 (CallC (lv (n + 25)) 643 [p_expr] (testK cde0 (Q .none))) H
noncomputable abbrev cde3 (n : Nat) (Q : KV) (p_expr v1 : PV) (H : PH) := allocC [] (cde2 n Q v1 p_expr) H
noncomputable abbrev cde4 (H : PH) := False
noncomputable abbrev cde5 (n : Nat) (Q : KV) (v3 p_expr v4 : PV) (H : PH) := CmpT .NotEq v3 v4 cde4 (CallC (lv (n + 25)) 638 [p_expr] (cde3 n Q p_expr)) H
noncomputable abbrev cde6 (n : Nat) (Q : KV) (p_expr v3 : PV) (H : PH) := allocC [] (cde5 n Q v3 p_expr) H
noncomputable abbrev cde_ (n : Nat) (Q : KV) (p_expr p_column : PV) (H : PH) := CallC (lv (n + 25)) 650 [p_expr] (cde6 n Q p_expr) H
theorem cde_c {n : Nat} {Q : KV} {p_expr p_column : PV} {H : PH} (h : cde_ n Q p_expr p_column H) : CallC (lv (n + 30)) 775 [p_expr, p_column] Q H := ⟨Eq.mpr (by kernel_rfl) h⟩
noncomputable abbrev iit0 (n : Nat) (Q : KV) (v3 : PV) (H : PH) := CallC (lv (n + 17)) 617 [v3] (cmpK .Eq (.str "integer") Q) H
noncomputable abbrev iit1 (n : Nat) (Q : KV) (p_column v2 : PV) (H : PH) := testC v2 (AttrC p_column "type_name" (iit0 n Q)) (Q v2) H
noncomputable abbrev iit_ (n : Nat) (Q : KV) (p_column : PV) (H : PH) := AttrC p_column "type_name" (cmpK .IsNot .none (iit1 n Q p_column)) H
theorem iit_c {n : Nat} {Q : KV} {p_column : PV} {H : PH} (h : iit_ n Q p_column H) : CallC (lv (n + 22)) 796 [p_column] Q H := ⟨Eq.mpr (by kernel_rfl) h⟩
noncomputable abbrev iMak0 (Q : KV) (p_self v6 : PV) (H : PH) := SetAttrC p_self "table" v6 (unitK (SetAttrC p_self "has_primary" (.bool false) (unitK (Q .none)))) H
noncomputable abbrev iMak1 (n : Nat) (Q : KV) (v1 v3 v4 p_self v5 : PV) (H : PH) := CallC (lv (n + 17)) 757 [v1, v3, v4, v5] (iMak0 Q p_self) H
noncomputable abbrev iMak2 (n : Nat) (Q : KV) (p_statement v1 v3 p_self v4 : PV) (H : PH) := AttrC p_statement "text" (iMak1 n Q v1 v3 v4 p_self) H
noncomputable abbrev iMak3 (n : Nat) (Q : KV) (p_statement v1 p_self v3 : PV) (H : PH) := allocC [] (iMak2 n Q p_statement v1 v3 p_self) H
noncomputable abbrev iMak4 (n : Nat) (Q : KV) (p_self p_statement v1 : PV) (c2 : Callee) (H : PH) := applyC (lv (n + 16)) p_self "root_at" [(.int 0)] c2 (iMak3 n Q p_statement v1 p_self) H
noncomputable abbrev iMak5 (n : Nat) (Q : KV) (p_self p_statement v1 : PV) (H : PH) := CalleeC p_self "root_at" (iMak4 n Q p_self p_statement v1) H
noncomputable abbrev iMak6 (n : Nat) (Q : KV) (p_self p_statement v0 : PV) (H : PH) := SetAttrC p_self "roots" v0 (unitK (SetAttrC p_self "statement" p_statement (unitK (AttrC p_statement "name" (iMak5 n Q p_self p_statement))))) H
noncomputable abbrev iMak_ (n : Nat) (Q : KV) (p_self p_statement p_roots : PV) (H : PH) := CmpT .Is p_roots .none (allocC [] (iMak6 n Q p_self p_statement)) (TypeC "list" [p_roots] (iMak6 n Q p_self p_statement)) H
theorem iMak_c {n : Nat} {Q : KV} {p_self p_statement p_roots : PV} {H : PH} (h : iMak_ n Q p_self p_statement p_roots H) : CallC (lv (n + 20)) 810 [p_self, p_statement, p_roots] Q H := ⟨Eq.mpr (by kernel_rfl) h⟩
noncomputable abbrev rta0 (Q : KV) (p_place p_self v4 : PV) (H : PH) := CmpT .Lt p_place v4 (AttrC p_self "roots" (subsK p_place Q)) (Q (.int 0)) H
noncomputable abbrev rta_ (n : Nat) (Q : KV) (p_self p_place : PV) (H : PH) := AttrC p_self "roots" (builtK "len" (rta0 Q p_place p_self)) H
theorem rta_c {n : Nat} {Q : KV} {p_self p_place : PV} {H : PH} (h : rta_ n Q p_self p_place H) : CallC (lv (n + 10)) 817 [p_self, p_place] Q H := ⟨Eq.mpr (by kernel_rfl) h⟩
noncomputable abbrev rd0 (n : Nat) (k : KL) (v5 v3 : PV) (ℓ4 : Loc) (c6 : Callee) (H : PH) := applyC (lv (n + 56)) v5 "add_column" [v3] c6 (noneK (unitK (k (ℓ4.upd "told" v3)))) H
noncomputable abbrev rd1 (n : Nat) (k : KL) (v3 : PV) (ℓ4 : Loc) (v5 : PV) (H : PH) := CalleeC v5 "add_column" (rd0 n k v5 v3 ℓ4) H
noncomputable abbrev rd2 (n : Nat) (v3 : PV) (ℓ4 : Loc) (k : KL) (H : PH) := optC (ℓ4 "self") (rd1 n k v3 ℓ4) H
noncomputable abbrev rd3 (n : Nat) (k : KL) (v28 v26 v27 : PV) (c29 : Callee) (ℓ24 : Loc) (v30 : PV) (H : PH) := applyC (lv (n + 55)) v28 "add_column_constraint" [v30, v26, v27] c29 (noneK (unitK (k ((ℓ24.upd "word" v26).upd "detail" v27)))) H
noncomputable abbrev rd4 (n : Nat) (k : KL) (ℓ24 : Loc) (v28 v26 v27 : PV) (c29 : Callee) (H : PH) := optC (ℓ24 "place") (rd3 n k v28 v26 v27 c29 ℓ24) H
noncomputable abbrev rd5 (n : Nat) (k : KL) (ℓ24 : Loc) (v26 v27 v28 : PV) (H : PH) := CalleeC v28 "add_column_constraint" (rd4 n k ℓ24 v28 v26 v27) H
noncomputable abbrev rd6 (n : Nat) (k : KL) (ℓ24 : Loc) (v26 v27 : PV) (H : PH) := optC (ℓ24 "self") (rd5 n k ℓ24 v26 v27) H
noncomputable abbrev rd7 (n : Nat) (v23 : PV) (ℓ24 : Loc) (k : KL) (H : PH) := ItemsC v23 (unp2K (rd6 n k ℓ24)) H
noncomputable abbrev rd8 (n : Nat) (k : KL) (ℓ16 : Loc) (v15 : PV) (s22 : SL) (H : PH) := loopF s22.1 (rd7 n) s22.2 (ℓ16.upd "place" v15) k H
noncomputable abbrev rd9 (n : Nat) (v15 : PV) (ℓ16 : Loc) (k : KL) (H : PH) := optC (ℓ16 "self") (attrK "statement" (attrK "columns" (subsK v15 (attrK "constraints" (srcK (rd8 n k ℓ16 v15)))))) H
noncomputable abbrev rd10 (n : Nat) (k : KL) (v40 v38 : PV) (ℓ39 : Loc) (c41 : Callee) (H : PH) := applyC (lv (n + 56)) v40 "add_table_constraint" [v38] c41 (noneK (unitK (k (ℓ39.upd "constraint" v38)))) H
noncomputable abbrev rd11 (n : Nat) (k : KL) (v38 : PV) (ℓ39 : Loc) (v40 : PV) (H : PH) := CalleeC v40 "add_table_constraint" (rd10 n k v40 v38 ℓ39) H
noncomputable abbrev rd12 (n : Nat) (v38 : PV) (ℓ39 : Loc) (k : KL) (H : PH) := optC (ℓ39 "self") (rd11 n k v38 ℓ39) H
noncomputable abbrev rd13 (v48 : PV) (ℓ49 : Loc) (k : KL) (H : PH) := False
noncomputable abbrev rd14 (Q : KV) (ℓ50 : Loc) (H : PH) := optC (ℓ50 "self") (attrK "table" Q) H
noncomputable abbrev rd15 (Q : KV) (ℓ43 : Loc) (s47 : SL) (H : PH) := loopF s47.1 rd13 s47.2 ℓ43 (rd14 Q) H
noncomputable abbrev rd16 (Q : KV) (ℓ43 : Loc) (H : PH) := optC (ℓ43 "self") (attrK "table" (attrK "checks" (srcK (rd15 Q ℓ43)))) H
noncomputable abbrev rd17 (n : Nat) (Q : KV) (ℓ33 : Loc) (s37 : SL) (H : PH) := loopF s37.1 (rd12 n) s37.2 ℓ33 (rd16 Q) H
noncomputable abbrev rd18 (n : Nat) (Q : KV) (ℓ33 : Loc) (H : PH) := optC (ℓ33 "self") (attrK "statement" (attrK "constraints" (srcK (rd17 n Q ℓ33)))) H
noncomputable abbrev rd19 (n : Nat) (Q : KV) (ℓ8 : Loc) (s14 : SL) (H : PH) := loopF s14.1 (rd9 n) s14.2 ℓ8 (rd18 n Q) H
noncomputable abbrev rd20 (H : PH) := False
noncomputable abbrev rd21 (n : Nat) (Q : KV) (ℓ8 : Loc) (H : PH) := optC (ℓ8 "self") (attrK "table" (attrK "columns" (builtK "len" (cmpTK .Gt (.int 2000) rd20 (optC (ℓ8 "self") (attrK "statement" (attrK "columns" (builtK "len" (typeK "range" (srcK (rd19 n Q ℓ8))))))))))) H
noncomputable abbrev rd22 (n : Nat) (Q : KV) (p_self : PV) (s2 : SL) (H : PH) := loopF s2.1 (rd2 n) s2.2 (noL.upd "self" p_self) (rd21 n Q) H
noncomputable abbrev rd_ (n : Nat) (Q : KV) (p_self : PV) (H : PH) := AttrC p_self "statement" (attrK "columns" (srcK (rd22 n Q p_self))) H
theorem rd_c {n : Nat} {Q : KV} {p_self : PV} {H : PH} (h : rd_ n Q p_self H) : CallC (lv (n + 60)) 824 [p_self] Q H := ⟨Eq.mpr (by kernel_rfl) h⟩
noncomputable abbrev adc0 (n : Nat) (Q : KV) (v1 : PV) (c2 : Callee) (v5 : PV) (H : PH) := applyC (lv (n + 37)) v1 "append" [v5] c2 (noneK (unitK (Q .none))) H
noncomputable abbrev adc1 (n : Nat) (Q : KV) (v3 v1 : PV) (c2 : Callee) (v4 : PV) (H : PH) := CallC (lv (n + 36)) 684 [v3, v4] (adc0 n Q v1 c2) H
noncomputable abbrev adc2 (n : Nat) (Q : KV) (p_told v1 : PV) (c2 : Callee) (v3 : PV) (H : PH) := AttrC p_told "type_name" (adc1 n Q v3 v1 c2) H
noncomputable abbrev adc3 (n : Nat) (Q : KV) (p_told v1 : PV) (c2 : Callee) (H : PH) := AttrC p_told "name" (adc2 n Q p_told v1 c2) H
noncomputable abbrev adc4 (n : Nat) (Q : KV) (p_told v1 : PV) (H : PH) := CalleeC v1 "append" (adc3 n Q p_told v1) H
noncomputable abbrev adc5 (H : PH) := False
noncomputable abbrev adc6 (n : Nat) (Q : KV) (v10 p_self p_told v12 : PV) (H : PH) := CmpT .NotIn v10 v12 adc5 (AttrC p_self "table" (attrK "columns" (adc4 n Q p_told))) H
noncomputable abbrev adc7 (n : Nat) (Q : KV) (v10 p_self p_told v11 : PV) (H : PH) := tupC [.none, v11] (adc6 n Q v10 p_self p_told) H
noncomputable abbrev adc8 (n : Nat) (Q : KV) (p_self p_told v10 : PV) (H : PH) := UnC .USub (.int 1) (adc7 n Q v10 p_self p_told) H
noncomputable abbrev adc9 (n : Nat) (Q : KV) (v7 : PV) (c8 : Callee) (p_self p_told v9 : PV) (H : PH) := applyC (lv (n + 36)) v7 "place_of" [v9] c8 (adc8 n Q p_self p_told) H
noncomputable abbrev adc10 (n : Nat) (Q : KV) (p_told v7 p_self : PV) (c8 : Callee) (H : PH) := AttrC p_told "name" (adc9 n Q v7 c8 p_self p_told) H
noncomputable abbrev adc11 (n : Nat) (Q : KV) (p_told p_self v7 : PV) (H : PH) := CalleeC v7 "place_of" (adc10 n Q p_told v7 p_self) H
noncomputable abbrev adc_ (n : Nat) (Q : KV) (p_self p_told : PV) (H : PH) := AttrC p_self "table" (adc11 n Q p_told p_self) H
theorem adc_c {n : Nat} {Q : KV} {p_self p_told : PV} {H : PH} (h : adc_ n Q p_self p_told H) : CallC (lv (n + 40)) 831 [p_self, p_told] Q H := ⟨Eq.mpr (by kernel_rfl) h⟩
noncomputable abbrev acc0 (Q : KV) (v2 v4 : PV) (H : PH) := SetAttrC v2 "collation" v4 (unitK (Q .none)) H
noncomputable abbrev acc1 (n : Nat) (Q : KV) (p_self : PV) (c5 : Callee) (v7 : PV) (H : PH) := applyC (lv (n + 42)) p_self "add_unique" [v7, (.str "u")] c5 (noneK (unitK (Q .none))) H
noncomputable abbrev acc2 (n : Nat) (Q : KV) (p_self : PV) (c5 : Callee) (v6 : PV) (H : PH) := allocC [v6] (acc1 n Q p_self c5) H
noncomputable abbrev acc3 (n : Nat) (Q : KV) (p_place p_self : PV) (c5 : Callee) (H : PH) := tupC [p_place, .none, (.bool false)] (acc2 n Q p_self c5) H
noncomputable abbrev acc4 (n : Nat) (Q : KV) (p_self v12 : PV) (c9 : Callee) (v13 : PV) (H : PH) := applyC (lv (n + 41)) p_self "add_primary" [v12, v13] c9 (noneK (unitK (Q .none))) H
noncomputable abbrev acc5 (n : Nat) (Q : KV) (p_detail p_self v12 : PV) (c9 : Callee) (v15 : PV) (H : PH) := testC v15 (UnC .Not p_detail (acc4 n Q p_self v12 c9)) ((acc4 n Q p_self v12 c9) v15) H
noncomputable abbrev acc6 (n : Nat) (Q : KV) (v2 p_detail p_self : PV) (c9 : Callee) (v12 : PV) (H : PH) := CallC (lv (n + 39)) 796 [v2] (acc5 n Q p_detail p_self v12 c9) H
noncomputable abbrev acc7 (n : Nat) (Q : KV) (v2 p_detail p_self : PV) (c9 : Callee) (v11 : PV) (H : PH) := allocC [v11] (acc6 n Q v2 p_detail p_self c9) H
noncomputable abbrev acc8 (n : Nat) (Q : KV) (p_place v2 p_detail p_self : PV) (c9 : Callee) (v10 : PV) (H : PH) := tupC [p_place, .none, v10] (acc7 n Q v2 p_detail p_self c9) H
noncomputable abbrev acc9 (n : Nat) (Q : KV) (p_detail p_place v2 p_self : PV) (c9 : Callee) (H : PH) := TypeC "bool" [p_detail] (acc8 n Q p_place v2 p_detail p_self c9) H
noncomputable abbrev acc10 (H : PH) := False
noncomputable abbrev acc11 (n : Nat) (Q : KV) (p_word p_detail p_self p_place v2 : PV) (H : PH) := CmpT .Eq p_word (.str "not null") (SetAttrC v2 "not_null" (.bool true) (unitK (Q .none))) (CmpT .Eq p_word (.str "default") (CallC (lv (n + 45)) 775 [p_detail, v2] (noneK (unitK (SetAttrC v2 "default" p_detail (unitK (Q .none)))))) (CmpT .Eq p_word (.str "check") acc10 (CmpT .Eq p_word (.str "collate") (CallC (lv (n + 43)) 768 [p_detail] (acc0 Q v2)) (CmpT .Eq p_word (.str "unique") (CalleeC p_self "add_unique" (acc3 n Q p_place p_self)) (CmpT .Eq p_word (.str "primary key") (CalleeC p_self "add_primary" (acc9 n Q p_detail p_place v2 p_self)) (Q .none)))))) H
noncomputable abbrev acc_ (n : Nat) (Q : KV) (p_self p_place p_word p_detail : PV) (H : PH) := AttrC p_self "table" (attrK "columns" (subsK p_place (acc11 n Q p_word p_detail p_self p_place))) H
theorem acc_c {n : Nat} {Q : KV} {p_self p_place p_word p_detail : PV} {H : PH} (h : acc_ n Q p_self p_place p_word p_detail H) : CallC (lv (n + 50)) 838 [p_self, p_place, p_word, p_detail] Q H := ⟨Eq.mpr (by kernel_rfl) h⟩
noncomputable abbrev atc0 (kc : KC) (ℓ3 : Loc) (v2 v6 : PV) (H : PH) := kc ([v6], (ℓ3.upd "told" v2)) H
noncomputable abbrev atc1 (n : Nat) (kc : KC) (v4 v2 : PV) (ℓ3 : Loc) (c5 : Callee) (H : PH) := applyC (lv (n + 46)) v4 "constraint_column" [v2] c5 (atc0 kc ℓ3 v2) H
noncomputable abbrev atc2 (n : Nat) (kc : KC) (v2 : PV) (ℓ3 : Loc) (v4 : PV) (H : PH) := CalleeC v4 "constraint_column" (atc1 n kc v4 v2 ℓ3) H
noncomputable abbrev atc3 (n : Nat) (v2 : PV) (ℓ3 : Loc) (kc : KC) (H : PH) := optC (ℓ3 "self") (atc2 n kc v2 ℓ3) H
noncomputable abbrev atc4 (n : Nat) (Q : KV) (p_self v8 : PV) (c9 : Callee) (H : PH) := applyC (lv (n + 46)) p_self "add_unique" [v8, (.str "u")] c9 (noneK (unitK (Q .none))) H
noncomputable abbrev atc5 (n : Nat) (Q : KV) (p_self v8 v11 : PV) (c12 : Callee) (H : PH) := applyC (lv (n + 47)) p_self "add_primary" [v8, v11] c12 (noneK (unitK (Q .none))) H
noncomputable abbrev atc6 (n : Nat) (Q : KV) (p_self v8 v11 : PV) (H : PH) := CalleeC p_self "add_primary" (atc5 n Q p_self v8 v11) H
noncomputable abbrev atc7 (n : Nat) (Q : KV) (p_self v8 v20 : PV) (H : PH) := CallC (lv (n + 46)) 796 [v20] (atc6 n Q p_self v8) H
noncomputable abbrev atc8 (n : Nat) (Q : KV) (v17 p_self v8 v19 : PV) (H : PH) := SubsC v17 v19 (atc7 n Q p_self v8) H
noncomputable abbrev atc9 (n : Nat) (Q : KV) (v8 p_self v17 : PV) (H : PH) := SubsC v8 (.int 0) (subsK (.int 0) (atc8 n Q v17 p_self v8)) H
noncomputable abbrev atc10 (n : Nat) (Q : KV) (p_self v8 v15 : PV) (H : PH) := testC v15 (AttrC p_self "table" (attrK "columns" (atc9 n Q v8 p_self))) ((atc6 n Q p_self v8) v15) H
noncomputable abbrev atc11 (n : Nat) (Q : KV) (p_constraint p_self v8 : PV) (H : PH) := AttrC p_constraint "kind" (cmpTK .Eq (.str "unique") (CalleeC p_self "add_unique" (atc4 n Q p_self v8)) (BuiltC "len" [v8] (cmpK .Eq (.int 1) (atc10 n Q p_self v8)))) H
noncomputable abbrev atc12 (n : Nat) (Q : KV) (p_constraint p_self : PV) (s1 : SL) (H : PH) := loopC s1.1 (atc3 n) s1.2 (locF ["self"] ((noL.upd "constraint" p_constraint).upd "self" p_self)) (allocK (atc11 n Q p_constraint p_self)) H
noncomputable abbrev atc13 (H : PH) := False
noncomputable abbrev atc_ (n : Nat) (Q : KV) (p_self p_constraint : PV) (H : PH) := AttrC p_constraint "kind" (cmpTK .Eq (.str "check") atc13 (AttrC p_constraint "columns" (srcK (atc12 n Q p_constraint p_self)))) H
theorem atc_c {n : Nat} {Q : KV} {p_self p_constraint : PV} {H : PH} (h : atc_ n Q p_self p_constraint H) : CallC (lv (n + 50)) 843 [p_self, p_constraint] Q H := ⟨Eq.mpr (by kernel_rfl) h⟩
noncomputable abbrev con0 (Q : KV) (v3 v4 v6 : PV) (H : PH) := tupC [v3, v4, v6] Q H
noncomputable abbrev con1 (Q : KV) (p_told v3 v4 : PV) (H : PH) := AttrC p_told "descending" (typeK "bool" (con0 Q v3 v4)) H
noncomputable abbrev con2 (n : Nat) (Q : KV) (p_told v3 v8 : PV) (H : PH) := CallC (lv (n + 36)) 768 [v8] (con1 Q p_told v3) H
noncomputable abbrev con3 (H : PH) := False
noncomputable abbrev con4 (H : PH) := False
noncomputable abbrev con5 (n : Nat) (Q : KV) (p_told v3 : PV) (H : PH) := CmpT .Is v3 .none con4 (CmpT .Lt v3 (.int 0) con3 (AttrC p_told "collation" (cmpTK .Is .none ((con1 Q p_told v3) .none) (AttrC p_told "collation" (con2 n Q p_told v3))))) H
noncomputable abbrev con6 (n : Nat) (Q : KV) (v0 : PV) (c1 : Callee) (p_told v2 : PV) (H : PH) := applyC (lv (n + 37)) v0 "place_of" [v2] c1 (con5 n Q p_told) H
noncomputable abbrev con7 (n : Nat) (Q : KV) (p_told v0 : PV) (c1 : Callee) (H : PH) := AttrC p_told "name" (con6 n Q v0 c1 p_told) H
noncomputable abbrev con8 (n : Nat) (Q : KV) (p_told v0 : PV) (H : PH) := CalleeC v0 "place_of" (con7 n Q p_told v0) H
noncomputable abbrev con_ (n : Nat) (Q : KV) (p_self p_told : PV) (H : PH) := AttrC p_self "table" (con8 n Q p_told) H
theorem con_c {n : Nat} {Q : KV} {p_self p_told : PV} {H : PH} (h : con_ n Q p_self p_told H) : CallC (lv (n + 40)) 850 [p_self, p_told] Q H := ⟨Eq.mpr (by kernel_rfl) h⟩
noncomputable abbrev adp0 (kc : KC) (ℓ2 : Loc) (v4 v5 v6 : PV) (H : PH) := kc ([v4], (((ℓ2.upd "place" v4).upd "collation" v5).upd "descending" v6)) H
noncomputable abbrev adp1 (v1 : PV) (ℓ2 : Loc) (kc : KC) (H : PH) := ItemsC v1 (unp3K (adp0 kc ℓ2)) H
noncomputable abbrev adp2 (Q : KV) (v11 v12 : PV) (H : PH) := SetAttrC v12 "rowid_place" v11 (unitK (Q .none)) H
noncomputable abbrev adp3 (Q : KV) (p_self v11 : PV) (H : PH) := AttrC p_self "table" (adp2 Q v11) H
noncomputable abbrev adp4 (n : Nat) (Q : KV) (p_self p_columns : PV) (c13 : Callee) (H : PH) := applyC (lv (n + 26)) p_self "add_unique" [p_columns, (.str "pk")] c13 (noneK (unitK (Q .none))) H
noncomputable abbrev adp5 (n : Nat) (Q : KV) (v8 p_is_rowid p_columns p_self v9 : PV) (H : PH) := SetAttrC v9 "primary" v8 (unitK (testC p_is_rowid (SubsC p_columns (.int 0) (subsK (.int 0) (adp3 Q p_self))) (CalleeC p_self "add_unique" (adp4 n Q p_self p_columns)))) H
noncomputable abbrev adp6 (n : Nat) (Q : KV) (p_self p_is_rowid p_columns v8 : PV) (H : PH) := AttrC p_self "table" (adp5 n Q v8 p_is_rowid p_columns p_self) H
noncomputable abbrev adp7 (n : Nat) (Q : KV) (p_is_rowid p_columns p_self : PV) (s0 : SL) (H : PH) := loopC s0.1 adp1 s0.2 (locF [] (((noL.upd "is_rowid" p_is_rowid).upd "columns" p_columns).upd "self" p_self)) (allocK (adp6 n Q p_self p_is_rowid p_columns)) H
noncomputable abbrev adp8 (H : PH) := False
noncomputable abbrev adp_ (n : Nat) (Q : KV) (p_self p_columns p_is_rowid : PV) (H : PH) := AttrC p_self "has_primary" (testK adp8 (SetAttrC p_self "has_primary" (.bool true) (unitK (SrcC p_columns (adp7 n Q p_is_rowid p_columns p_self))))) H
theorem adp_c {n : Nat} {Q : KV} {p_self p_columns p_is_rowid : PV} {H : PH} (h : adp_ n Q p_self p_columns p_is_rowid H) : CallC (lv (n + 30)) 855 [p_self, p_columns, p_is_rowid] Q H := ⟨Eq.mpr (by kernel_rfl) h⟩
noncomputable abbrev adu0 (n : Nat) (Q : KV) (v1 : PV) (c2 : Callee) (v5 : PV) (H : PH) := applyC (lv (n + 13)) v1 "append" [v5] c2 (noneK (unitK (Q .none))) H
noncomputable abbrev adu1 (n : Nat) (Q : KV) (p_columns p_origin v1 : PV) (c2 : Callee) (v4 : PV) (H : PH) := CallC (lv (n + 12)) 717 [.none, v4, (.int 0), p_columns, (.bool true), p_origin, .none] (adu0 n Q v1 c2) H
noncomputable abbrev adu2 (n : Nat) (Q : KV) (p_self p_columns p_origin v1 : PV) (c2 : Callee) (H : PH) := AttrC p_self "table" (attrK "name" (adu1 n Q p_columns p_origin v1 c2)) H
noncomputable abbrev adu3 (n : Nat) (Q : KV) (p_self p_columns p_origin v1 : PV) (H : PH) := CalleeC v1 "append" (adu2 n Q p_self p_columns p_origin v1) H
noncomputable abbrev adu_ (n : Nat) (Q : KV) (p_self p_columns p_origin : PV) (H : PH) := AttrC p_self "table" (attrK "indexes" (adu3 n Q p_self p_columns p_origin)) H
theorem adu_c {n : Nat} {Q : KV} {p_self p_columns p_origin : PV} {H : PH} (h : adu_ n Q p_self p_columns p_origin H) : CallC (lv (n + 16)) 862 [p_self, p_columns, p_origin] Q H := ⟨Eq.mpr (by kernel_rfl) h⟩
noncomputable abbrev stl0 (kc : KC) (ℓ9 : Loc) (v8 v12 : PV) (H : PH) := kc ([v12], (ℓ9.upd "row" v8)) H
noncomputable abbrev stl1 (n : Nat) (kc : KC) (v10 v8 : PV) (ℓ9 : Loc) (c11 : Callee) (H : PH) := applyC (lv (n + 25)) v10 "settled" [v8] c11 (stl0 kc ℓ9 v8) H
noncomputable abbrev stl2 (n : Nat) (kc : KC) (v8 : PV) (ℓ9 : Loc) (v10 : PV) (H : PH) := CalleeC v10 "settled" (stl1 n kc v10 v8 ℓ9) H
noncomputable abbrev stl3 (n : Nat) (v8 : PV) (ℓ9 : Loc) (kc : KC) (H : PH) := optC (ℓ9 "self") (stl2 n kc v8 ℓ9) H
noncomputable abbrev stl4 (n : Nat) (k : KL) (v15 v4 : PV) (ℓ5 : Loc) (c16 : Callee) (H : PH) := applyC (lv (n + 25)) v15 "append" [v4] c16 (noneK (unitK (k (ℓ5.upd "index" v4)))) H
noncomputable abbrev stl5 (n : Nat) (k : KL) (v4 : PV) (ℓ5 : Loc) (v15 : PV) (H : PH) := CalleeC v15 "append" (stl4 n k v15 v4 ℓ5) H
noncomputable abbrev stl6 (n : Nat) (k : KL) (v18 v4 : PV) (c19 : Callee) (ℓ5 : Loc) (v20 : PV) (H : PH) := applyC (lv (n + 24)) v18 "is_needless" [v4, v20] c19 (testK (k (ℓ5.upd "index" v4)) (optC (ℓ5 "kept") (stl5 n k v4 ℓ5))) H
noncomputable abbrev stl7 (n : Nat) (k : KL) (ℓ5 : Loc) (v18 v4 : PV) (c19 : Callee) (H : PH) := optC (ℓ5 "kept") (stl6 n k v18 v4 c19 ℓ5) H
noncomputable abbrev stl8 (n : Nat) (k : KL) (ℓ5 : Loc) (v4 v18 : PV) (H : PH) := CalleeC v18 "is_needless" (stl7 n k ℓ5 v18 v4) H
noncomputable abbrev stl9 (n : Nat) (k : KL) (v4 : PV) (ℓ5 : Loc) (v14 : PV) (H : PH) := SetAttrC v4 "columns" v14 (unitK (optC (ℓ5 "self") (stl8 n k ℓ5 v4))) H
noncomputable abbrev stl10 (n : Nat) (k : KL) (ℓ5 : Loc) (v4 : PV) (s7 : SL) (H : PH) := loopC s7.1 (stl3 n) s7.2 (locF ["self"] (ℓ5.upd "index" v4)) (allocK (stl9 n k v4 ℓ5)) H
noncomputable abbrev stl11 (n : Nat) (v4 : PV) (ℓ5 : Loc) (k : KL) (H : PH) := AttrC v4 "columns" (srcK (stl10 n k ℓ5 v4)) H
noncomputable abbrev stl12 (k : KL) (v42 : PV) (ℓ28 : Loc) (v27 v44 : PV) (H : PH) := SetAttrC v44 "root" v42 (unitK (k (ℓ28.upd "count" v27))) H
noncomputable abbrev stl13 (k : KL) (ℓ28 : Loc) (v27 v42 : PV) (H : PH) := optC (ℓ28 "kept") (subsK v27 (stl12 k v42 ℓ28 v27)) H
noncomputable abbrev stl14 (n : Nat) (k : KL) (v39 : PV) (c40 : Callee) (ℓ28 : Loc) (v27 v41 : PV) (H : PH) := applyC (lv (n + 26)) v39 "root_at" [v41] c40 (stl13 k ℓ28 v27) H
noncomputable abbrev stl15 (n : Nat) (k : KL) (v27 v39 : PV) (ℓ28 : Loc) (c40 : Callee) (H : PH) := BinC .Add v27 (.int 1) (stl14 n k v39 c40 ℓ28 v27) H
noncomputable abbrev stl16 (n : Nat) (k : KL) (v27 : PV) (ℓ28 : Loc) (v39 : PV) (H : PH) := CalleeC v39 "root_at" (stl15 n k v27 v39 ℓ28) H
noncomputable abbrev stl17 (n : Nat) (k : KL) (v36 : PV) (ℓ28 : Loc) (v27 v38 : PV) (H : PH) := SetAttrC v38 "name" v36 (unitK (optC (ℓ28 "self") (stl16 n k v27 ℓ28))) H
noncomputable abbrev stl18 (n : Nat) (k : KL) (ℓ28 : Loc) (v27 v36 : PV) (H : PH) := optC (ℓ28 "kept") (subsK v27 (stl17 n k v36 ℓ28 v27)) H
noncomputable abbrev stl19 (n : Nat) (k : KL) (v33 : PV) (ℓ28 : Loc) (v27 v35 : PV) (H : PH) := BinC .Add v33 v35 (stl18 n k ℓ28 v27) H
noncomputable abbrev stl20 (n : Nat) (k : KL) (v27 : PV) (ℓ28 : Loc) (v33 : PV) (H : PH) := BinC .Add v27 (.int 1) (typeK "str" (stl19 n k v33 ℓ28 v27)) H
noncomputable abbrev stl21 (n : Nat) (k : KL) (v27 : PV) (ℓ28 : Loc) (v31 : PV) (H : PH) := BinC .Add (.str "pagebase_auto_") v31 (binK .Add (.str "_") (stl20 n k v27 ℓ28)) H
noncomputable abbrev stl22 (n : Nat) (v27 : PV) (ℓ28 : Loc) (k : KL) (H : PH) := optC (ℓ28 "self") (attrK "table" (attrK "name" (stl21 n k v27 ℓ28))) H
noncomputable abbrev stl23 (Q : KV) (v46 v48 : PV) (H : PH) := SetAttrC v48 "indexes" v46 (unitK (Q .none)) H
noncomputable abbrev stl24 (Q : KV) (ℓ45 : Loc) (v46 : PV) (H : PH) := optC (ℓ45 "self") (attrK "table" (stl23 Q v46)) H
noncomputable abbrev stl25 (Q : KV) (ℓ45 : Loc) (H : PH) := optC (ℓ45 "kept") (stl24 Q ℓ45) H
noncomputable abbrev stl26 (n : Nat) (Q : KV) (ℓ22 : Loc) (s26 : SL) (H : PH) := loopF s26.1 (stl22 n) s26.2 ℓ22 (stl25 Q) H
noncomputable abbrev stl27 (n : Nat) (Q : KV) (ℓ22 : Loc) (H : PH) := optC (ℓ22 "kept") (builtK "len" (typeK "range" (srcK (stl26 n Q ℓ22)))) H
noncomputable abbrev stl28 (n : Nat) (Q : KV) (p_self v0 : PV) (s3 : SL) (H : PH) := loopF s3.1 (stl11 n) s3.2 ((noL.upd "self" p_self).upd "kept" v0) (stl27 n Q) H
noncomputable abbrev stl29 (n : Nat) (Q : KV) (p_self v0 : PV) (H : PH) := AttrC p_self "table" (attrK "indexes" (srcK (stl28 n Q p_self v0))) H
noncomputable abbrev stl_ (n : Nat) (Q : KV) (p_self : PV) (H : PH) := allocC [] (stl29 n Q p_self) H
theorem stl_c {n : Nat} {Q : KV} {p_self : PV} {H : PH} (h : stl_ n Q p_self H) : CallC (lv (n + 30)) 867 [p_self] Q H := ⟨Eq.mpr (by kernel_rfl) h⟩
noncomputable abbrev std0 (Q : KV) (v1 v3 v4 : PV) (H : PH) := tupC [v1, v4, v3] Q H
noncomputable abbrev std1 (Q : KV) (p_self v1 v2 v3 : PV) (H : PH) := CmpT .Is v2 .none (AttrC p_self "table" (attrK "columns" (subsK v1 (attrK "collation" (std0 Q v1 v3))))) ((std0 Q v1 v3) v2) H
noncomputable abbrev std_ (n : Nat) (Q : KV) (p_self p_row : PV) (H : PH) := ItemsC p_row (unp3K (std1 Q p_self)) H
theorem std_c {n : Nat} {Q : KV} {p_self p_row : PV} {H : PH} (h : std_ n Q p_self p_row H) : CallC (lv (n + 12)) 874 [p_self, p_row] Q H := ⟨Eq.mpr (by kernel_rfl) h⟩
noncomputable abbrev nee0 (kc : KC) (ℓ3 : Loc) (v5 v6 v7 v8 : PV) (H : PH) := kc ([v8], (((ℓ3.upd "place" v5).upd "collation" v6).upd "descending" v7)) H
noncomputable abbrev nee1 (kc : KC) (ℓ3 : Loc) (v5 v6 v7 : PV) (H : PH) := tupC [v5, v6] (nee0 kc ℓ3 v5 v6 v7) H
noncomputable abbrev nee2 (v2 : PV) (ℓ3 : Loc) (kc : KC) (H : PH) := ItemsC v2 (unp3K (nee1 kc ℓ3)) H
noncomputable abbrev nee3 (kc : KC) (ℓ20 : Loc) (v22 v23 v24 v25 : PV) (H : PH) := kc ([v25], (((ℓ20.upd "place" v22).upd "collation" v23).upd "descending" v24)) H
noncomputable abbrev nee4 (kc : KC) (ℓ20 : Loc) (v22 v23 v24 : PV) (H : PH) := tupC [v22, v23] (nee3 kc ℓ20 v22 v23 v24) H
noncomputable abbrev nee5 (v19 : PV) (ℓ20 : Loc) (kc : KC) (H : PH) := ItemsC v19 (unp3K (nee4 kc ℓ20)) H
noncomputable abbrev nee6 (Q : KV) (k : KL) (v16 : PV) (ℓ13 : Loc) (v12 v27 : PV) (H : PH) := CmpT .Eq v16 v27 (optC (ℓ13 "index") (attrK "origin" (cmpTK .Eq (.str "pk") (SetAttrC v12 "origin" (.str "pk") (unitK (Q (.bool true)))) (Q (.bool true))))) (k (ℓ13.upd "other" v12)) H
noncomputable abbrev nee7 (Q : KV) (k : KL) (ℓ13 : Loc) (v12 v16 : PV) (s18 : SL) (H : PH) := loopC s18.1 nee5 s18.2 (locF [] (ℓ13.upd "other" v12)) (allocK (nee6 Q k v16 ℓ13 v12)) H
noncomputable abbrev nee8 (Q : KV) (k : KL) (v12 : PV) (ℓ13 : Loc) (v16 : PV) (H : PH) := AttrC v12 "columns" (srcK (nee7 Q k ℓ13 v12 v16)) H
noncomputable abbrev nee9 (Q : KV) (v12 : PV) (ℓ13 : Loc) (k : KL) (H : PH) := optC (ℓ13 "keys") (nee8 Q k v12 ℓ13) H
noncomputable abbrev nee10 (Q : KV) (ℓ28 : Loc) (H : PH) := Q (.bool false) H
noncomputable abbrev nee11 (Q : KV) (p_kept p_index p_self v10 : PV) (s11 : SL) (H : PH) := loopF s11.1 (nee9 Q) s11.2 ((((noL.upd "kept" p_kept).upd "index" p_index).upd "self" p_self).upd "keys" v10) (nee10 Q) H
noncomputable abbrev nee12 (Q : KV) (p_kept p_index p_self v10 : PV) (H : PH) := SrcC p_kept (nee11 Q p_kept p_index p_self v10) H
noncomputable abbrev nee13 (Q : KV) (p_kept p_index p_self : PV) (s1 : SL) (H : PH) := loopC s1.1 nee2 s1.2 (locF [] (((noL.upd "kept" p_kept).upd "index" p_index).upd "self" p_self)) (allocK (nee12 Q p_kept p_index p_self)) H
noncomputable abbrev nee14 (Q : KV) (v30 p_index p_kept p_self v33 : PV) (H : PH) := CmpT .Eq v30 v33 (Q (.bool true)) (AttrC p_index "columns" (srcK (nee13 Q p_kept p_index p_self))) H
noncomputable abbrev nee15 (Q : KV) (v30 p_index p_kept p_self v32 : PV) (H : PH) := allocC [v32] (nee14 Q v30 p_index p_kept p_self) H
noncomputable abbrev nee16 (Q : KV) (p_self p_index p_kept v30 : PV) (H : PH) := AttrC p_self "table" (attrK "rowid_place" (nee15 Q v30 p_index p_kept p_self)) H
noncomputable abbrev nee17 (n : Nat) (Q : KV) (p_index p_self p_kept : PV) (c29 : Callee) (H : PH) := applyC (lv (n + 16)) p_index "places" [] c29 (nee16 Q p_self p_index p_kept) H
noncomputable abbrev nee_ (n : Nat) (Q : KV) (p_self p_index p_kept : PV) (H : PH) := CalleeC p_index "places" (nee17 n Q p_index p_self p_kept) H
theorem nee_c {n : Nat} {Q : KV} {p_self p_index p_kept : PV} {H : PH} (h : nee_ n Q p_self p_index p_kept H) : CallC (lv (n + 20)) 879 [p_self, p_index, p_kept] Q H := ⟨Eq.mpr (by kernel_rfl) h⟩
noncomputable abbrev tf0 (n : Nat) (Q : KV) (v0 v2 : PV) (c3 : Callee) (H : PH) := applyC (lv (n + 67)) v0 "settle" [] c3 (noneK (unitK (Q v2))) H
noncomputable abbrev tf1 (n : Nat) (Q : KV) (v0 v2 : PV) (H : PH) := CalleeC v0 "settle" (tf0 n Q v0 v2) H
noncomputable abbrev tf2 (n : Nat) (Q : KV) (v0 : PV) (c1 : Callee) (H : PH) := applyC (lv (n + 67)) v0 "read" [] c1 (tf1 n Q v0) H
noncomputable abbrev tf3 (n : Nat) (Q : KV) (v0 : PV) (H : PH) := CalleeC v0 "read" (tf2 n Q v0) H
noncomputable abbrev tf_ (n : Nat) (Q : KV) (p_statement p_roots : PV) (H : PH) := CallC (lv (n + 67)) 882 [p_statement, p_roots] (tf3 n Q) H
theorem tf_c {n : Nat} {Q : KV} {p_statement p_roots : PV} {H : PH} (h : tf_ n Q p_statement p_roots H) : CallC (lv (n + 70)) 894 [p_statement, p_roots] Q H := ⟨Eq.mpr (by kernel_rfl) h⟩
noncomputable abbrev typ0 (Q : KV) (v0 v1 v2 v3 v4 v5 v6 v7 v8 : PV) (H : PH) := allocC [v0, v1, v2, v3, v4, v5, v6, v7, v8] Q H
noncomputable abbrev typ1 (Q : KV) (v0 v1 v2 v3 v4 v5 v6 v7 : PV) (H : PH) := tupC [.none, (.str "blob")] (typ0 Q v0 v1 v2 v3 v4 v5 v6 v7) H
noncomputable abbrev typ2 (Q : KV) (v0 v1 v2 v3 v4 v5 v6 : PV) (H : PH) := tupC [(.str "STRING"), (.str "numeric")] (typ1 Q v0 v1 v2 v3 v4 v5 v6) H
noncomputable abbrev typ3 (Q : KV) (v0 v1 v2 v3 v4 v5 : PV) (H : PH) := tupC [(.str "NUMERIC"), (.str "numeric")] (typ2 Q v0 v1 v2 v3 v4 v5) H
noncomputable abbrev typ4 (Q : KV) (v0 v1 v2 v3 v4 : PV) (H : PH) := tupC [(.str "BLOB"), (.str "blob")] (typ3 Q v0 v1 v2 v3 v4) H
noncomputable abbrev typ5 (Q : KV) (v0 v1 v2 v3 : PV) (H : PH) := tupC [(.str "VarChar(5)"), (.str "text")] (typ4 Q v0 v1 v2 v3) H
noncomputable abbrev typ6 (Q : KV) (v0 v1 v2 : PV) (H : PH) := tupC [(.str "TEXT"), (.str "text")] (typ5 Q v0 v1 v2) H
noncomputable abbrev typ7 (Q : KV) (v0 v1 : PV) (H : PH) := tupC [(.str "BIGINT"), (.str "integer")] (typ6 Q v0 v1) H
noncomputable abbrev typ8 (Q : KV) (v0 : PV) (H : PH) := tupC [(.str "integer"), (.str "integer")] (typ7 Q v0) H
noncomputable abbrev typ_ (n : Nat) (Q : KV) (H : PH) := tupC [(.str "INTEGER"), (.str "integer")] (typ8 Q) H
theorem typ_c {n : Nat} {Q : KV} {H : PH} (h : typ_ n Q H) : CallC (lv (n + 8)) 901 [] Q H := ⟨Eq.mpr (by kernel_rfl) h⟩
noncomputable abbrev pool0 (Q : KV) (v12 v13 : PV) (H : PH) := allocC [v13, v12] Q H
noncomputable abbrev pool1 (Q : KV) (v3 v12 v15 : PV) (H : PH) := CmpT .GtE v3 v15 ((pool0 Q v12) v3) ((pool0 Q v12) (.int 0)) H
noncomputable abbrev pool2 (Q : KV) (v3 v12 : PV) (H : PH) := BinC .Pow (.int 10) (.int 18) (pool1 Q v3 v12) H
noncomputable abbrev pool3 (Q : KV) (v7 v3 v8 : PV) (H : PH) := BinC .Add v7 v8 (binK .Add (.int 17) (binK .Mult (.int 48271) (binK .Mod (.int 2147483647) (pool2 Q v3)))) H
noncomputable abbrev pool4 (Q : KV) (p_k v3 v7 : PV) (H : PH) := BinC .Mult (.int 31) p_k (pool3 Q v7 v3) H
noncomputable abbrev pool5 (Q : KV) (v4 p_k v3 v6 : PV) (H : PH) := BinC .Add v4 v6 (pool4 Q p_k v3) H
noncomputable abbrev pool6 (Q : KV) (p_k v3 v4 : PV) (H : PH) := BinC .Mult (.int 7919) p_k (binK .Mult p_k (pool5 Q v4 p_k v3)) H
noncomputable abbrev pool7 (Q : KV) (p_k v3 : PV) (H : PH) := BinC .Mod v3 (.int 2147483629) (pool6 Q p_k v3) H
noncomputable abbrev pool8 (Q : KV) (v0 p_k v2 : PV) (H : PH) := BuiltC "max" [v0, v2] (pool7 Q p_k) H
noncomputable abbrev pool9 (Q : KV) (p_k v0 : PV) (H : PH) := UnC .USub (.int 1) (binK .Sub v0 (pool8 Q v0 p_k)) H
noncomputable abbrev pool10 (Q : KV) (p_k p_script v17 : PV) (H : PH) := CmpT .Lt p_k v17 (SubsC p_script p_k (pool9 Q p_k)) ((pool9 Q p_k) (.int 0)) H
noncomputable abbrev pool_ (n : Nat) (Q : KV) (p_script p_k : PV) (H : PH) := BuiltC "len" [p_script] (pool10 Q p_k p_script) H
theorem pool_c {n : Nat} {Q : KV} {p_script p_k : PV} {H : PH} (h : pool_ n Q p_script p_k H) : CallC (lv (n + 14)) 908 [p_script, p_k] Q H := ⟨Eq.mpr (by kernel_rfl) h⟩
noncomputable abbrev take0 (Q : KV) (p_source v1 v3 : PV) (H : PH) := SetItemC p_source (.int 0) v3 (unitK (Q v1)) H
noncomputable abbrev take1 (Q : KV) (p_source p_top v1 : PV) (H : PH) := SubsC p_source (.int 0) (binK .FloorDiv p_top (take0 Q p_source v1)) H
noncomputable abbrev take2 (Q : KV) (v8 p_top v9 : PV) (H : PH) := BinC .Mult v8 v9 (binK .Mod (.int 2147483629) (binK .FloorDiv (.int 32) (binK .Mod p_top Q))) H
noncomputable abbrev take3 (Q : KV) (p_source p_top v8 : PV) (H : PH) := SubsC p_source (.int 1) (take2 Q v8 p_top) H
noncomputable abbrev take4 (Q : KV) (p_source p_top v7 : PV) (H : PH) := SetItemC p_source (.int 1) v7 (unitK (SubsC p_source (.int 1) (take3 Q p_source p_top))) H
noncomputable abbrev take_ (n : Nat) (Q : KV) (p_source p_top : PV) (H : PH) := SubsC p_source (.int 0) (cmpTK .Gt (.int 0) (SubsC p_source (.int 0) (binK .Mod p_top (take1 Q p_source p_top))) (SubsC p_source (.int 1) (binK .Mult (.int 39373) (binK .Add (.int 7) (binK .Mod (.int 2147483647) (take4 Q p_source p_top)))))) H
theorem take_c {n : Nat} {Q : KV} {p_source p_top : PV} {H : PH} (h : take_ n Q p_source p_top H) : CallC (lv (n + 14)) 915 [p_source, p_top] Q H := ⟨Eq.mpr (by kernel_rfl) h⟩
noncomputable abbrev turn0 (Q : KV) (ℓ6 : Loc) (H : PH) := optC (ℓ6 "drawn") Q H
noncomputable abbrev turn1 (n : Nat) (Q : KV) (p_things p_source v4 v5 : PV) (H : PH) := (lv (n + 39)).ex (pf 125).scope ((((noL.upd "things" p_things).upd "source" p_source).upd "left" v4).upd "drawn" v5) st125 Q (turn0 Q) H
noncomputable abbrev turn2 (n : Nat) (Q : KV) (v0 p_things p_source v1 : PV) (H : PH) := tupC [v0, v1] (itemsK (unp2K (turn1 n Q p_things p_source))) H
noncomputable abbrev turn3 (n : Nat) (Q : KV) (p_things p_source v0 : PV) (H : PH) := allocC [] (turn2 n Q v0 p_things p_source) H
noncomputable abbrev turn_ (n : Nat) (Q : KV) (p_source p_things : PV) (H : PH) := TypeC "list" [p_things] (turn3 n Q p_things p_source) H
theorem turn_c {n : Nat} {Q : KV} {p_source p_things : PV} {H : PH} (h : turn_ n Q p_source p_things H) : CallC (lv (n + 40)) 922 [p_source, p_things] Q H := ⟨Eq.mpr (by kernel_rfl) h⟩
noncomputable abbrev clm0 (Q : KV) (p_name v14 v15 v16 : PV) (H : PH) := allocC [p_name, v14, v15, v16] Q H
noncomputable abbrev clm1 (n : Nat) (Q : KV) (p_source v10 p_name v14 v15 : PV) (H : PH) := CallC (lv (n + 46)) 922 [p_source, v10] (clm0 Q p_name v14 v15) H
noncomputable abbrev clm2 (n : Nat) (Q : KV) (v13 p_source v10 p_name v14 : PV) (H : PH) := SubsC v13 (.int 1) (clm1 n Q p_source v10 p_name v14) H
noncomputable abbrev clm3 (n : Nat) (Q : KV) (p_source v10 p_name v13 : PV) (H : PH) := SubsC v13 (.int 0) (clm2 n Q v13 p_source v10 p_name) H
noncomputable abbrev clm4 (n : Nat) (Q : KV) (v11 p_source v10 p_name v12 : PV) (H : PH) := SubsC v11 v12 (clm3 n Q p_source v10 p_name) H
noncomputable abbrev clm5 (n : Nat) (Q : KV) (p_source v11 v10 p_name v19 : PV) (H : PH) := CallC (lv (n + 45)) 915 [p_source, v19] (clm4 n Q v11 p_source v10 p_name) H
noncomputable abbrev clm6 (n : Nat) (Q : KV) (p_is_primary p_source v10 p_name v11 : PV) (H : PH) := testC p_is_primary (CallC (lv (n + 43)) 915 [p_source, (.int 2)] (cmpTK .Eq (.int 0) ((clm4 n Q v11 p_source v10 p_name) (.int 0)) (CallC (lv (n + 43)) 901 [] (builtK "len" (clm5 n Q p_source v11 v10 p_name))))) (CallC (lv (n + 43)) 901 [] (builtK "len" (clm5 n Q p_source v11 v10 p_name))) H
noncomputable abbrev clm7 (n : Nat) (Q : KV) (v10 : PV) (c22 : Callee) (p_is_primary p_source p_name v25 : PV) (H : PH) := applyC (lv (n + 46)) v10 "append" [v25] c22 (noneK (unitK (CallC (lv (n + 46)) 901 [] (clm6 n Q p_is_primary p_source v10 p_name)))) H
noncomputable abbrev clm8 (n : Nat) (Q : KV) (v10 : PV) (c22 : Callee) (p_is_primary p_source p_name v24 : PV) (H : PH) := tupC [(.str "primary key"), v24] (clm7 n Q v10 c22 p_is_primary p_source p_name) H
noncomputable abbrev clm9 (n : Nat) (Q : KV) (p_source v10 p_is_primary p_name : PV) (c22 : Callee) (H : PH) := CallC (lv (n + 43)) 915 [p_source, (.int 3)] (cmpK .Eq (.int 0) (clm8 n Q v10 c22 p_is_primary p_source p_name)) H
noncomputable abbrev clm10 (n : Nat) (Q : KV) (v10 : PV) (c27 : Callee) (p_is_primary p_source p_name v31 : PV) (H : PH) := applyC (lv (n + 46)) v10 "append" [v31] c27 (noneK (unitK (testC p_is_primary (CalleeC v10 "append" (clm9 n Q p_source v10 p_is_primary p_name)) (CallC (lv (n + 46)) 901 [] (clm6 n Q p_is_primary p_source v10 p_name))))) H
noncomputable abbrev clm11 (n : Nat) (Q : KV) (v10 : PV) (c27 : Callee) (p_is_primary p_source p_name v30 : PV) (H : PH) := tupC [(.str "default"), v30] (clm10 n Q v10 c27 p_is_primary p_source p_name) H
noncomputable abbrev clm12 (n : Nat) (Q : KV) (v28 v10 : PV) (c27 : Callee) (p_is_primary p_source p_name v29 : PV) (H : PH) := SubsC v28 v29 (clm11 n Q v10 c27 p_is_primary p_source p_name) H
noncomputable abbrev clm13 (n : Nat) (Q : KV) (p_source v10 : PV) (c27 : Callee) (p_is_primary p_name v28 : PV) (H : PH) := CallC (lv (n + 43)) 915 [p_source, (.int 4)] (clm12 n Q v28 v10 c27 p_is_primary p_source p_name) H
noncomputable abbrev clm14 (n : Nat) (Q : KV) (p_source v10 p_is_primary p_name : PV) (c27 : Callee) (H : PH) := allocC [(.int 5), (.str "x y"), .none, (.bytes [122].toArray)] (clm13 n Q p_source v10 c27 p_is_primary p_name) H
noncomputable abbrev clm15 (n : Nat) (Q : KV) (v10 : PV) (c34 : Callee) (p_source p_is_primary p_name v38 : PV) (H : PH) := applyC (lv (n + 46)) v10 "append" [v38] c34 (noneK (unitK (CallC (lv (n + 46)) 915 [p_source, (.int 4)] (cmpTK .Eq (.int 0) (CalleeC v10 "append" (clm14 n Q p_source v10 p_is_primary p_name)) (testC p_is_primary (CalleeC v10 "append" (clm9 n Q p_source v10 p_is_primary p_name)) (CallC (lv (n + 46)) 901 [] (clm6 n Q p_is_primary p_source v10 p_name))))))) H
noncomputable abbrev clm16 (n : Nat) (Q : KV) (v10 : PV) (c34 : Callee) (p_source p_is_primary p_name v37 : PV) (H : PH) := tupC [(.str "collate"), v37] (clm15 n Q v10 c34 p_source p_is_primary p_name) H
noncomputable abbrev clm17 (n : Nat) (Q : KV) (v35 v10 : PV) (c34 : Callee) (p_source p_is_primary p_name v36 : PV) (H : PH) := SubsC v35 v36 (clm16 n Q v10 c34 p_source p_is_primary p_name) H
noncomputable abbrev clm18 (n : Nat) (Q : KV) (p_source v10 : PV) (c34 : Callee) (p_is_primary p_name v35 : PV) (H : PH) := CallC (lv (n + 43)) 915 [p_source, (.int 3)] (clm17 n Q v35 v10 c34 p_source p_is_primary p_name) H
noncomputable abbrev clm19 (n : Nat) (Q : KV) (p_source v10 p_is_primary p_name : PV) (c34 : Callee) (H : PH) := allocC [(.str "nocase"), (.str "RTRIM"), (.str "binary")] (clm18 n Q p_source v10 c34 p_is_primary p_name) H
noncomputable abbrev clm20 (n : Nat) (Q : KV) (p_source p_is_primary p_name v10 : PV) (H : PH) := CallC (lv (n + 46)) 915 [p_source, (.int 3)] (cmpTK .Eq (.int 0) (CalleeC v10 "append" (clm19 n Q p_source v10 p_is_primary p_name)) (CallC (lv (n + 46)) 915 [p_source, (.int 4)] (cmpTK .Eq (.int 0) (CalleeC v10 "append" (clm14 n Q p_source v10 p_is_primary p_name)) (testC p_is_primary (CalleeC v10 "append" (clm9 n Q p_source v10 p_is_primary p_name)) (CallC (lv (n + 46)) 901 [] (clm6 n Q p_is_primary p_source v10 p_name)))))) H
noncomputable abbrev clm21 (n : Nat) (Q : KV) (v4 p_source p_is_primary p_name v9 : PV) (H : PH) := BinC .Add v4 v9 (clm20 n Q p_source p_is_primary p_name) H
noncomputable abbrev clm22 (n : Nat) (Q : KV) (v6 v4 p_source p_is_primary p_name v8 : PV) (H : PH) := BinC .Mult v6 v8 (clm21 n Q v4 p_source p_is_primary p_name) H
noncomputable abbrev clm23 (n : Nat) (Q : KV) (p_source v4 p_is_primary p_name v6 : PV) (H : PH) := CallC (lv (n + 44)) 915 [p_source, (.int 3)] (binK .FloorDiv (.int 2) (clm22 n Q v6 v4 p_source p_is_primary p_name)) H
noncomputable abbrev clm24 (n : Nat) (Q : KV) (p_source v4 p_is_primary p_name v5 : PV) (H : PH) := allocC [v5] (clm23 n Q p_source v4 p_is_primary p_name) H
noncomputable abbrev clm25 (n : Nat) (Q : KV) (p_source p_is_primary p_name v4 : PV) (H : PH) := tupC [(.str "unique"), .none] (clm24 n Q p_source v4 p_is_primary p_name) H
noncomputable abbrev clm26 (n : Nat) (Q : KV) (v1 p_source p_is_primary p_name v3 : PV) (H : PH) := BinC .Mult v1 v3 (clm25 n Q p_source p_is_primary p_name) H
noncomputable abbrev clm27 (n : Nat) (Q : KV) (p_source p_is_primary p_name v1 : PV) (H : PH) := CallC (lv (n + 44)) 915 [p_source, (.int 4)] (binK .FloorDiv (.int 3) (clm26 n Q v1 p_source p_is_primary p_name)) H
noncomputable abbrev clm28 (n : Nat) (Q : KV) (p_source p_is_primary p_name v0 : PV) (H : PH) := allocC [v0] (clm27 n Q p_source p_is_primary p_name) H
noncomputable abbrev clm_ (n : Nat) (Q : KV) (p_source p_name p_is_primary : PV) (H : PH) := tupC [(.str "not null"), .none] (clm28 n Q p_source p_is_primary p_name) H
theorem clm_c {n : Nat} {Q : KV} {p_source p_name p_is_primary : PV} {H : PH} (h : clm_ n Q p_source p_name p_is_primary H) : CallC (lv (n + 50)) 929 [p_source, p_name, p_is_primary] Q H := ⟨Eq.mpr (by kernel_rfl) h⟩
noncomputable abbrev drw0 (kc : KC) (ℓ8 : Loc) (v7 v14 : PV) (H : PH) := kc ([v14], (ℓ8.upd "at" v7)) H
noncomputable abbrev drw1 (n : Nat) (kc : KC) (v9 v11 : PV) (ℓ8 : Loc) (v7 v13 : PV) (H : PH) := CallC (lv (n + 56)) 929 [v9, v11, v13] (drw0 kc ℓ8 v7) H
noncomputable abbrev drw2 (n : Nat) (kc : KC) (v7 v9 v11 : PV) (ℓ8 : Loc) (v12 : PV) (H : PH) := CmpC .Eq v7 v12 (drw1 n kc v9 v11 ℓ8 v7) H
noncomputable abbrev drw3 (n : Nat) (kc : KC) (ℓ8 : Loc) (v7 v9 v11 : PV) (H : PH) := optC (ℓ8 "where") (drw2 n kc v7 v9 v11 ℓ8) H
noncomputable abbrev drw4 (n : Nat) (kc : KC) (v7 : PV) (ℓ8 : Loc) (v9 : PV) (H : PH) := allocC [(.str "a"), (.str "b"), (.str "Cc"), (.str "d")] (subsK v7 (drw3 n kc ℓ8 v7 v9)) H
noncomputable abbrev drw5 (n : Nat) (v7 : PV) (ℓ8 : Loc) (kc : KC) (H : PH) := optC (ℓ8 "source") (drw4 n kc v7 ℓ8) H
noncomputable abbrev drw6 (kc : KC) (ℓ43 : Loc) (v42 v51 : PV) (H : PH) := kc ([v51], (ℓ43.upd "place" v42)) H
noncomputable abbrev drw7 (kc : KC) (v42 v47 : PV) (ℓ43 : Loc) (v50 : PV) (H : PH) := tupC [v42, v47, v50] (drw6 kc ℓ43 v42) H
noncomputable abbrev drw8 (n : Nat) (kc : KC) (v42 v47 : PV) (ℓ43 : Loc) (v48 : PV) (H : PH) := CallC (lv (n + 51)) 915 [v48, (.int 3)] (cmpK .Eq (.int 0) (drw7 kc v42 v47 ℓ43)) H
noncomputable abbrev drw9 (n : Nat) (kc : KC) (ℓ43 : Loc) (v42 v47 : PV) (H : PH) := optC (ℓ43 "source") (drw8 n kc v42 v47 ℓ43) H
noncomputable abbrev drw10 (n : Nat) (kc : KC) (v44 : PV) (ℓ43 : Loc) (v42 v46 : PV) (H : PH) := SubsC v44 v46 (drw9 n kc ℓ43 v42) H
noncomputable abbrev drw11 (n : Nat) (kc : KC) (v44 : PV) (ℓ43 : Loc) (v42 v45 : PV) (H : PH) := CallC (lv (n + 51)) 915 [v45, (.int 3)] (drw10 n kc v44 ℓ43 v42) H
noncomputable abbrev drw12 (n : Nat) (kc : KC) (ℓ43 : Loc) (v42 v44 : PV) (H : PH) := optC (ℓ43 "source") (drw11 n kc v44 ℓ43 v42) H
noncomputable abbrev drw13 (n : Nat) (v42 : PV) (ℓ43 : Loc) (kc : KC) (H : PH) := optC (ℓ43 "told") (drw12 n kc ℓ43 v42) H
noncomputable abbrev drw14 (n : Nat) (k : KL) (v39 : PV) (c40 : Callee) (ℓ28 : Loc) (v27 v37 v38 v54 : PV) (H : PH) := applyC (lv (n + 56)) v39 "append" [v54] c40 (noneK (unitK (k (((ℓ28.upd "word" v27).upd "places" v37).upd "told" v38)))) H
noncomputable abbrev drw15 (n : Nat) (k : KL) (v27 v39 : PV) (c40 : Callee) (ℓ28 : Loc) (v37 v38 v53 : PV) (H : PH) := tupC [v27, v53] (drw14 n k v39 c40 ℓ28 v27 v37 v38) H
noncomputable abbrev drw16 (n : Nat) (k : KL) (ℓ28 : Loc) (v27 v37 v38 v39 : PV) (c40 : Callee) (s41 : SL) (H : PH) := loopC s41.1 (drw13 n) s41.2 (locF ["source", "told"] (((ℓ28.upd "word" v27).upd "places" v37).upd "told" v38)) (allocK (drw15 n k v27 v39 c40 ℓ28 v37 v38)) H
noncomputable abbrev drw17 (n : Nat) (k : KL) (v37 : PV) (ℓ28 : Loc) (v27 v38 v39 : PV) (c40 : Callee) (H : PH) := SrcC v37 (drw16 n k ℓ28 v27 v37 v38 v39 c40) H
noncomputable abbrev drw18 (n : Nat) (k : KL) (v37 : PV) (ℓ28 : Loc) (v27 v38 v39 : PV) (H : PH) := CalleeC v39 "append" (drw17 n k v37 ℓ28 v27 v38 v39) H
noncomputable abbrev drw19 (n : Nat) (k : KL) (ℓ28 : Loc) (v37 v27 v38 : PV) (H : PH) := optC (ℓ28 "rules") (drw18 n k v37 ℓ28 v27 v38) H
noncomputable abbrev drw20 (n : Nat) (k : KL) (ℓ28 : Loc) (v27 v37 : PV) (H : PH) := allocC [.none, .none, (.str "NoCase")] (drw19 n k ℓ28 v37 v27) H
noncomputable abbrev drw21 (n : Nat) (k : KL) (v32 : PV) (ℓ28 : Loc) (v27 v36 : PV) (H : PH) := SliceC v32 v36 (drw20 n k ℓ28 v27) H
noncomputable abbrev drw22 (n : Nat) (k : KL) (v32 : PV) (ℓ28 : Loc) (v27 v35 : PV) (H : PH) := BinC .Add (.int 1) v35 (drw21 n k v32 ℓ28 v27) H
noncomputable abbrev drw23 (n : Nat) (k : KL) (v33 v32 : PV) (ℓ28 : Loc) (v27 v34 : PV) (H : PH) := CallC (lv (n + 54)) 915 [v33, v34] (drw22 n k v32 ℓ28 v27) H
noncomputable abbrev drw24 (n : Nat) (k : KL) (ℓ28 : Loc) (v32 v27 v33 : PV) (H : PH) := optC (ℓ28 "many") (drw23 n k v33 v32 ℓ28 v27) H
noncomputable abbrev drw25 (n : Nat) (k : KL) (ℓ28 : Loc) (v27 v32 : PV) (H : PH) := optC (ℓ28 "source") (drw24 n k ℓ28 v32 v27) H
noncomputable abbrev drw26 (n : Nat) (k : KL) (v29 : PV) (ℓ28 : Loc) (v27 v31 : PV) (H : PH) := CallC (lv (n + 55)) 922 [v29, v31] (drw25 n k ℓ28 v27) H
noncomputable abbrev drw27 (n : Nat) (k : KL) (ℓ28 : Loc) (v27 v29 : PV) (H : PH) := optC (ℓ28 "many") (typeK "range" (drw26 n k v29 ℓ28 v27)) H
noncomputable abbrev drw28 (n : Nat) (v27 : PV) (ℓ28 : Loc) (k : KL) (H : PH) := optC (ℓ28 "source") (drw27 n k ℓ28 v27) H
noncomputable abbrev drw29 (Q : KV) (v60 v61 v64 : PV) (H : PH) := allocC [v60, v61, v64] Q H
noncomputable abbrev drw30 (n : Nat) (Q : KV) (v62 v60 v61 v63 : PV) (H : PH) := CallC (lv (n + 56)) 922 [v62, v63] (drw29 Q v60 v61) H
noncomputable abbrev drw31 (n : Nat) (Q : KV) (ℓ56 : Loc) (v60 v61 v62 : PV) (H : PH) := optC (ℓ56 "rules") (drw30 n Q v62 v60 v61) H
noncomputable abbrev drw32 (n : Nat) (Q : KV) (ℓ56 : Loc) (v60 v61 : PV) (H : PH) := optC (ℓ56 "source") (drw31 n Q ℓ56 v60 v61) H
noncomputable abbrev drw33 (n : Nat) (Q : KV) (ℓ56 : Loc) (v60 : PV) (H : PH) := optC (ℓ56 "columns") (drw32 n Q ℓ56 v60) H
noncomputable abbrev drw34 (n : Nat) (Q : KV) (v57 : PV) (ℓ56 : Loc) (v59 : PV) (H : PH) := SubsC v57 v59 (drw33 n Q ℓ56) H
noncomputable abbrev drw35 (n : Nat) (Q : KV) (v57 : PV) (ℓ56 : Loc) (v58 : PV) (H : PH) := CallC (lv (n + 55)) 915 [v58, (.int 2)] (drw34 n Q v57 ℓ56) H
noncomputable abbrev drw36 (n : Nat) (Q : KV) (ℓ56 : Loc) (v57 : PV) (H : PH) := optC (ℓ56 "source") (drw35 n Q v57 ℓ56) H
noncomputable abbrev drw37 (n : Nat) (Q : KV) (ℓ56 : Loc) (H : PH) := allocC [(.str "t"), (.str "Things")] (drw36 n Q ℓ56) H
noncomputable abbrev drw38 (n : Nat) (Q : KV) (p_source v1 v4 v16 v17 : PV) (s26 : SL) (H : PH) := loopF s26.1 (drw28 n) s26.2 (((((noL.upd "source" p_source).upd "many" v1).upd "where" v4).upd "columns" v16).upd "rules" v17) (drw37 n Q) H
noncomputable abbrev drw39 (n : Nat) (Q : KV) (v20 p_source v1 v4 v16 v17 v24 : PV) (H : PH) := BinC .Add v20 v24 (srcK (drw38 n Q p_source v1 v4 v16 v17)) H
noncomputable abbrev drw40 (n : Nat) (Q : KV) (v21 v20 p_source v1 v4 v16 v17 v23 : PV) (H : PH) := BinC .Mult v21 v23 (drw39 n Q v20 p_source v1 v4 v16 v17) H
noncomputable abbrev drw41 (n : Nat) (Q : KV) (v4 v21 v20 p_source v1 v16 v17 v67 : PV) (H : PH) := CmpC .Lt v4 v67 (typeK "int" (drw40 n Q v21 v20 p_source v1 v4 v16 v17)) H
noncomputable abbrev drw42 (n : Nat) (Q : KV) (v1 v4 v21 v20 p_source v16 v17 v66 : PV) (H : PH) := testC v66 (BinC .Mult (.int 2) v1 (drw41 n Q v4 v21 v20 p_source v1 v16 v17)) ((typeK "int" (drw40 n Q v21 v20 p_source v1 v4 v16 v17)) v66) H
noncomputable abbrev drw43 (n : Nat) (Q : KV) (v1 v4 v20 p_source v16 v17 v21 : PV) (H : PH) := CmpC .LtE v1 v4 (drw42 n Q v1 v4 v21 v20 p_source v16 v17) H
noncomputable abbrev drw44 (n : Nat) (Q : KV) (v1 v4 p_source v16 v17 v20 : PV) (H : PH) := allocC [(.str "primary key")] (drw43 n Q v1 v4 v20 p_source v16 v17) H
noncomputable abbrev drw45 (n : Nat) (Q : KV) (v18 v1 v4 p_source v16 v17 v19 : PV) (H : PH) := BinC .Mult v18 v19 (drw44 n Q v1 v4 p_source v16 v17) H
noncomputable abbrev drw46 (n : Nat) (Q : KV) (p_source v1 v4 v16 v17 v18 : PV) (H : PH) := CallC (lv (n + 55)) 915 [p_source, (.int 3)] (drw45 n Q v18 v1 v4 p_source v16 v17) H
noncomputable abbrev drw47 (n : Nat) (Q : KV) (p_source v1 v4 v16 v17 : PV) (H : PH) := allocC [(.str "unique")] (drw46 n Q p_source v1 v4 v16 v17) H
noncomputable abbrev drw48 (n : Nat) (Q : KV) (p_source v1 v4 v16 : PV) (H : PH) := allocC [] (drw47 n Q p_source v1 v4 v16) H
noncomputable abbrev drw49 (n : Nat) (Q : KV) (p_source v1 v4 : PV) (s6 : SL) (H : PH) := loopC s6.1 (drw5 n) s6.2 (locF ["source", "where"] (((noL.upd "source" p_source).upd "many" v1).upd "where" v4)) (allocK (drw48 n Q p_source v1 v4)) H
noncomputable abbrev drw50 (n : Nat) (Q : KV) (v1 p_source v4 : PV) (H : PH) := TypeC "range" [v1] (srcK (drw49 n Q p_source v1 v4)) H
noncomputable abbrev drw51 (n : Nat) (Q : KV) (p_source v1 v3 : PV) (H : PH) := CallC (lv (n + 57)) 915 [p_source, v3] (drw50 n Q v1 p_source) H
noncomputable abbrev drw52 (n : Nat) (Q : KV) (p_source v1 : PV) (H : PH) := BinC .Mult (.int 2) v1 (binK .Add (.int 2) (drw51 n Q p_source v1)) H
noncomputable abbrev drw53 (n : Nat) (Q : KV) (p_source v0 : PV) (H : PH) := BinC .Add (.int 1) v0 (drw52 n Q p_source) H
noncomputable abbrev drw_ (n : Nat) (Q : KV) (p_source : PV) (H : PH) := CallC (lv (n + 56)) 915 [p_source, (.int 4)] (drw53 n Q p_source) H
theorem drw_c {n : Nat} {Q : KV} {p_source : PV} {H : PH} (h : drw_ n Q p_source H) : CallC (lv (n + 60)) 934 [p_source] Q H := ⟨Eq.mpr (by kernel_rfl) h⟩
noncomputable abbrev sta0 (kc : KC) (ℓ15 : Loc) (v17 v18 v20 : PV) (H : PH) := kc ([v20], ((ℓ15.upd "key" v17).upd "detail" v18)) H
noncomputable abbrev sta1 (kc : KC) (v17 : PV) (ℓ15 : Loc) (v18 v19 : PV) (H : PH) := tupC [v17, v19] (sta0 kc ℓ15 v17 v18) H
noncomputable abbrev sta2 (n : Nat) (kc : KC) (ℓ15 : Loc) (v17 v18 : PV) (H : PH) := CmpT .Eq v17 (.str "default") (CallC (lv (n + 13)) 144 [v18] (sta1 kc v17 ℓ15 v18)) ((sta1 kc v17 ℓ15 v18) v18) H
noncomputable abbrev sta3 (n : Nat) (v14 : PV) (ℓ15 : Loc) (kc : KC) (H : PH) := ItemsC v14 (unp2K (sta2 n kc ℓ15)) H
noncomputable abbrev sta4 (n : Nat) (k : KL) (v24 : PV) (c25 : Callee) (ℓ7 : Loc) (v9 v10 v11 v12 v23 v26 : PV) (H : PH) := applyC (lv (n + 16)) v24 "append" [v26] c25 (noneK (unitK (k (((((ℓ7.upd "word" v9).upd "kind" v10).upd "affinity" v11).upd "pairs" v12).upd "told" v23)))) H
noncomputable abbrev sta5 (n : Nat) (k : KL) (v9 v10 v23 v24 : PV) (ℓ7 : Loc) (v11 v12 : PV) (c25 : Callee) (H : PH) := CallC (lv (n + 15)) 532 [v9, v10, v23] (sta4 n k v24 c25 ℓ7 v9 v10 v11 v12 v23) H
noncomputable abbrev sta6 (n : Nat) (k : KL) (v9 v10 v23 : PV) (ℓ7 : Loc) (v11 v12 v24 : PV) (H : PH) := CalleeC v24 "append" (sta5 n k v9 v10 v23 v24 ℓ7 v11 v12) H
noncomputable abbrev sta7 (n : Nat) (k : KL) (ℓ7 : Loc) (v9 v10 v11 v12 v23 : PV) (H : PH) := optC (ℓ7 "nodes") (sta6 n k v9 v10 v23 ℓ7 v11 v12) H
noncomputable abbrev sta8 (n : Nat) (k : KL) (ℓ7 : Loc) (v9 v10 v11 v12 : PV) (s13 : SL) (H : PH) := loopC s13.1 (sta3 n) s13.2 (locF [] ((((ℓ7.upd "word" v9).upd "kind" v10).upd "affinity" v11).upd "pairs" v12)) (allocK (sta7 n k ℓ7 v9 v10 v11 v12)) H
noncomputable abbrev sta9 (n : Nat) (k : KL) (ℓ7 : Loc) (v9 v10 v11 v12 : PV) (H : PH) := SrcC v12 (sta8 n k ℓ7 v9 v10 v11 v12) H
noncomputable abbrev sta10 (n : Nat) (v6 : PV) (ℓ7 : Loc) (k : KL) (H : PH) := ItemsC v6 (unp4K (sta9 n k ℓ7)) H
noncomputable abbrev sta11 (kc : KC) (ℓ39 : Loc) (v41 v42 v43 v47 : PV) (H : PH) := kc ([v47], (((ℓ39.upd "place" v41).upd "collation" v42).upd "turned" v43)) H
noncomputable abbrev sta12 (n : Nat) (kc : KC) (v42 v43 : PV) (ℓ39 : Loc) (v41 v46 : PV) (H : PH) := CallC (lv (n + 15)) 558 [v46, v42, v43] (sta11 kc ℓ39 v41 v42 v43) H
noncomputable abbrev sta13 (n : Nat) (kc : KC) (ℓ39 : Loc) (v41 v42 v43 : PV) (H : PH) := optC (ℓ39 "columns") (subsK v41 (subsK (.int 0) (sta12 n kc v42 v43 ℓ39 v41))) H
noncomputable abbrev sta14 (n : Nat) (v38 : PV) (ℓ39 : Loc) (kc : KC) (H : PH) := ItemsC v38 (unp3K (sta13 n kc ℓ39)) H
noncomputable abbrev sta15 (n : Nat) (k : KL) (v50 : PV) (c51 : Callee) (ℓ33 : Loc) (v35 v36 v49 v52 : PV) (H : PH) := applyC (lv (n + 16)) v50 "append" [v52] c51 (noneK (unitK (k (((ℓ33.upd "word" v35).upd "rows" v36).upd "keys" v49)))) H
noncomputable abbrev sta16 (n : Nat) (k : KL) (v35 v49 v50 : PV) (ℓ33 : Loc) (v36 : PV) (c51 : Callee) (H : PH) := CallC (lv (n + 15)) 584 [v35, v49, .none] (sta15 n k v50 c51 ℓ33 v35 v36 v49) H
noncomputable abbrev sta17 (n : Nat) (k : KL) (v35 v49 : PV) (ℓ33 : Loc) (v36 v50 : PV) (H : PH) := CalleeC v50 "append" (sta16 n k v35 v49 v50 ℓ33 v36) H
noncomputable abbrev sta18 (n : Nat) (k : KL) (ℓ33 : Loc) (v35 v36 v49 : PV) (H : PH) := optC (ℓ33 "constraints") (sta17 n k v35 v49 ℓ33 v36) H
noncomputable abbrev sta19 (n : Nat) (k : KL) (ℓ33 : Loc) (v35 v36 : PV) (s37 : SL) (H : PH) := loopC s37.1 (sta14 n) s37.2 (locF ["columns"] ((ℓ33.upd "word" v35).upd "rows" v36)) (allocK (sta18 n k ℓ33 v35 v36)) H
noncomputable abbrev sta20 (n : Nat) (k : KL) (ℓ33 : Loc) (v35 v36 : PV) (H : PH) := SrcC v36 (sta19 n k ℓ33 v35 v36) H
noncomputable abbrev sta21 (n : Nat) (v32 : PV) (ℓ33 : Loc) (k : KL) (H : PH) := ItemsC v32 (unp2K (sta20 n k ℓ33)) H
noncomputable abbrev sta22 (n : Nat) (Q : KV) (v55 v56 v57 : PV) (H : PH) := CallC (lv (n + 17)) 610 [v55, v56, v57, (.bool false), (.str "CREATE TABLE ..")] Q H
noncomputable abbrev sta23 (n : Nat) (Q : KV) (ℓ54 : Loc) (v55 v56 : PV) (H : PH) := optC (ℓ54 "constraints") (sta22 n Q v55 v56) H
noncomputable abbrev sta24 (n : Nat) (Q : KV) (ℓ54 : Loc) (v55 : PV) (H : PH) := optC (ℓ54 "nodes") (sta23 n Q ℓ54 v55) H
noncomputable abbrev sta25 (n : Nat) (Q : KV) (ℓ54 : Loc) (H : PH) := optC (ℓ54 "name") (sta24 n Q ℓ54) H
noncomputable abbrev sta26 (n : Nat) (Q : KV) (ℓ28 : Loc) (v29 : PV) (s31 : SL) (H : PH) := loopF s31.1 (sta21 n) s31.2 (ℓ28.upd "constraints" v29) (sta25 n Q) H
noncomputable abbrev sta27 (n : Nat) (Q : KV) (ℓ28 : Loc) (v29 : PV) (H : PH) := optC (ℓ28 "rules") (srcK (sta26 n Q ℓ28 v29)) H
noncomputable abbrev sta28 (n : Nat) (Q : KV) (ℓ28 : Loc) (H : PH) := allocC [] (sta27 n Q ℓ28) H
noncomputable abbrev sta29 (n : Nat) (Q : KV) (p_drawn v1 v2 v3 v4 : PV) (s5 : SL) (H : PH) := loopF s5.1 (sta10 n) s5.2 (((((noL.upd "drawn" p_drawn).upd "name" v1).upd "columns" v2).upd "rules" v3).upd "nodes" v4) (sta28 n Q) H
noncomputable abbrev sta30 (n : Nat) (Q : KV) (v2 p_drawn v1 v3 v4 : PV) (H : PH) := SrcC v2 (sta29 n Q p_drawn v1 v2 v3 v4) H
noncomputable abbrev sta31 (n : Nat) (Q : KV) (p_drawn v1 v2 v3 : PV) (H : PH) := allocC [] (sta30 n Q v2 p_drawn v1 v3) H
noncomputable abbrev sta_ (n : Nat) (Q : KV) (p_drawn : PV) (H : PH) := ItemsC p_drawn (unp3K (sta31 n Q p_drawn)) H
theorem sta_c {n : Nat} {Q : KV} {p_drawn : PV} {H : PH} (h : sta_ n Q p_drawn H) : CallC (lv (n + 20)) 939 [p_drawn] Q H := ⟨Eq.mpr (by kernel_rfl) h⟩
noncomputable abbrev det0 (k : KL) (ℓ3 : Loc) (v5 v6 v7 : PV) (H : PH) := k (((ℓ3.upd "key" v5).upd "detail" v6).upd "other" v7) H
noncomputable abbrev det1 (k : KL) (v5 : PV) (ℓ3 : Loc) (v6 v9 : PV) (H : PH) := CmpT .Eq v5 v9 ((det0 k ℓ3 v5 v6) v6) (optC (ℓ3 "other") (det0 k ℓ3 v5 v6)) H
noncomputable abbrev det2 (k : KL) (ℓ3 : Loc) (v5 v6 : PV) (H : PH) := optC (ℓ3 "word") (det1 k v5 ℓ3 v6) H
noncomputable abbrev det3 (v2 : PV) (ℓ3 : Loc) (k : KL) (H : PH) := ItemsC v2 (unp2K (det2 k ℓ3)) H
noncomputable abbrev det4 (Q : KV) (ℓ10 : Loc) (H : PH) := optC (ℓ10 "other") Q H
noncomputable abbrev det5 (Q : KV) (p_other p_word p_column : PV) (s1 : SL) (H : PH) := loopF s1.1 det3 s1.2 (((noL.upd "other" p_other).upd "word" p_word).upd "column" p_column) (det4 Q) H
noncomputable abbrev det_ (n : Nat) (Q : KV) (p_column p_word p_other : PV) (H : PH) := SubsC p_column (.int 3) (srcK (det5 Q p_other p_word p_column)) H
theorem det_c {n : Nat} {Q : KV} {p_column p_word p_other : PV} {H : PH} (h : det_ n Q p_column p_word p_other H) : CallC (lv (n + 10)) 946 [p_column, p_word, p_other] Q H := ⟨Eq.mpr (by kernel_rfl) h⟩
noncomputable abbrev key0 (kc : KC) (ℓ19 : Loc) (v21 v22 v28 : PV) (H : PH) := kc ([v28], ((ℓ19.upd "word" v21).upd "detail" v22)) H
noncomputable abbrev key1 (kc : KC) (v21 v26 : PV) (ℓ19 : Loc) (v22 v27 : PV) (H : PH) := tupC [v21, v26, v27] (key0 kc ℓ19 v21 v22) H
noncomputable abbrev key2 (kc : KC) (v22 v21 : PV) (ℓ19 : Loc) (v26 : PV) (H : PH) := TypeC "bool" [v22] (key1 kc v21 v26 ℓ19 v22) H
noncomputable abbrev key3 (kc : KC) (v22 v21 : PV) (ℓ19 : Loc) (v25 : PV) (H : PH) := allocC [v25] (key2 kc v22 v21 ℓ19) H
noncomputable abbrev key4 (kc : KC) (v23 v22 v21 : PV) (ℓ19 : Loc) (v24 : PV) (H : PH) := tupC [v23, .none, v24] (key3 kc v22 v21 ℓ19) H
noncomputable abbrev key5 (kc : KC) (v22 v21 : PV) (ℓ19 : Loc) (v23 : PV) (H : PH) := TypeC "bool" [v22] (key4 kc v23 v22 v21 ℓ19) H
noncomputable abbrev key6 (kc : KC) (ℓ19 : Loc) (v21 v22 : PV) (H : PH) := optC (ℓ19 "place") (key5 kc v22 v21 ℓ19) H
noncomputable abbrev key7 (v18 : PV) (ℓ19 : Loc) (kc : KC) (H : PH) := ItemsC v18 (unp2K (key6 kc ℓ19)) H
noncomputable abbrev key8 (k : KL) (ℓ11 : Loc) (v13 v14 v31 : PV) (H : PH) := k (((ℓ11.upd "place" v13).upd "column" v14).upd "told" v31) H
noncomputable abbrev key9 (k : KL) (v15 : PV) (ℓ11 : Loc) (v13 v14 v30 : PV) (H : PH) := BinC .Add v15 v30 (key8 k ℓ11 v13 v14) H
noncomputable abbrev key10 (k : KL) (ℓ11 : Loc) (v13 v14 v15 : PV) (s17 : SL) (H : PH) := loopC s17.1 key7 s17.2 (locF ["place"] ((ℓ11.upd "place" v13).upd "column" v14)) (allocK (key9 k v15 ℓ11 v13 v14)) H
noncomputable abbrev key11 (k : KL) (v14 : PV) (ℓ11 : Loc) (v13 v15 : PV) (H : PH) := SubsC v14 (.int 3) (srcK (key10 k ℓ11 v13 v14 v15)) H
noncomputable abbrev key12 (k : KL) (ℓ11 : Loc) (v13 v14 : PV) (H : PH) := optC (ℓ11 "told") (key11 k v14 ℓ11 v13) H
noncomputable abbrev key13 (v10 : PV) (ℓ11 : Loc) (k : KL) (H : PH) := ItemsC v10 (unp2K (key12 k ℓ11)) H
noncomputable abbrev key14 (kc : KC) (ℓ38 : Loc) (v40 v41 v42 : PV) (H : PH) := kc ([v42], ((ℓ38.upd "word" v40).upd "rows" v41)) H
noncomputable abbrev key15 (kc : KC) (ℓ38 : Loc) (v40 v41 : PV) (H : PH) := tupC [v40, v41, (.bool false)] (key14 kc ℓ38 v40 v41) H
noncomputable abbrev key16 (v37 : PV) (ℓ38 : Loc) (kc : KC) (H : PH) := ItemsC v37 (unp2K (key15 kc ℓ38)) H
noncomputable abbrev key17 (kc : KC) (ℓ56 : Loc) (v55 v57 : PV) (H : PH) := kc ([v57], (ℓ56.upd "row" v55)) H
noncomputable abbrev key18 (v55 : PV) (ℓ56 : Loc) (kc : KC) (H : PH) := SubsC v55 (.int 0) (key17 kc ℓ56 v55) H
noncomputable abbrev key19 (k : KL) (ℓ48 : Loc) (v50 v51 v52 v59 v61 : PV) (H : PH) := k (((((ℓ48.upd "word" v50).upd "rows" v51).upd "is_turned" v52).upd "primary" v59).upd "rowid" v61) H
noncomputable abbrev key20 (n : Nat) (k : KL) (v62 : PV) (c63 : Callee) (ℓ48 : Loc) (v50 v51 v52 v59 v65 : PV) (H : PH) := applyC (lv (n + 14)) v62 "append" [v65] c63 (noneK (unitK (k ((((ℓ48.upd "word" v50).upd "rows" v51).upd "is_turned" v52).upd "primary" v59)))) H
noncomputable abbrev key21 (n : Nat) (k : KL) (v62 : PV) (c63 : Callee) (ℓ48 : Loc) (v50 v51 v52 v59 v64 : PV) (H : PH) := allocC [v64, (.str "pk")] (key20 n k v62 c63 ℓ48 v50 v51 v52 v59) H
noncomputable abbrev key22 (n : Nat) (k : KL) (v51 v62 : PV) (ℓ48 : Loc) (v50 v52 v59 : PV) (c63 : Callee) (H : PH) := TypeC "list" [v51] (key21 n k v62 c63 ℓ48 v50 v51 v52 v59) H
noncomputable abbrev key23 (n : Nat) (k : KL) (v51 : PV) (ℓ48 : Loc) (v50 v52 v59 v62 : PV) (H : PH) := CalleeC v62 "append" (key22 n k v51 v62 ℓ48 v50 v52 v59) H
noncomputable abbrev key24 (n : Nat) (k : KL) (v71 v59 : PV) (ℓ48 : Loc) (v50 v51 v52 v72 : PV) (H : PH) := CmpT .In v71 v72 (SubsC v59 (.int 0) (key19 k ℓ48 v50 v51 v52 v59)) (optC (ℓ48 "keys") (key23 n k v51 ℓ48 v50 v52 v59)) H
noncomputable abbrev key25 (n : Nat) (k : KL) (v59 : PV) (ℓ48 : Loc) (v50 v51 v52 v71 : PV) (H : PH) := allocC [(.str "INTEGER"), (.str "integer")] (key24 n k v71 v59 ℓ48 v50 v51 v52) H
noncomputable abbrev key26 (n : Nat) (k : KL) (v68 v59 : PV) (ℓ48 : Loc) (v50 v51 v52 v69 : PV) (H : PH) := SubsC v68 v69 (subsK (.int 1) (key25 n k v59 ℓ48 v50 v51 v52)) H
noncomputable abbrev key27 (n : Nat) (k : KL) (v59 : PV) (ℓ48 : Loc) (v50 v51 v52 v68 : PV) (H : PH) := SubsC v59 (.int 0) (key26 n k v68 v59 ℓ48 v50 v51 v52) H
noncomputable abbrev key28 (n : Nat) (k : KL) (v51 v52 : PV) (ℓ48 : Loc) (v50 v59 : PV) (H : PH) := BuiltC "len" [v51] (cmpTK .Eq (.int 1) (testC v52 (optC (ℓ48 "keys") (key23 n k v51 ℓ48 v50 v52 v59)) (optC (ℓ48 "drawn") (subsK (.int 1) (key27 n k v59 ℓ48 v50 v51 v52)))) (optC (ℓ48 "keys") (key23 n k v51 ℓ48 v50 v52 v59))) H
noncomputable abbrev key29 (n : Nat) (k : KL) (ℓ48 : Loc) (v50 v51 v52 : PV) (s54 : SL) (H : PH) := loopC s54.1 key18 s54.2 (locF [] (((ℓ48.upd "word" v50).upd "rows" v51).upd "is_turned" v52)) (allocK (key28 n k v51 v52 ℓ48 v50)) H
noncomputable abbrev key30 (kc : KC) (ℓ78 : Loc) (v80 v81 v82 v83 : PV) (H : PH) := kc ([v83], (((ℓ78.upd "place" v80).upd "collation" v81).upd "turned" v82)) H
noncomputable abbrev key31 (kc : KC) (ℓ78 : Loc) (v80 v81 v82 : PV) (H : PH) := tupC [v80, v81, v82] (key30 kc ℓ78 v80 v81 v82) H
noncomputable abbrev key32 (v77 : PV) (ℓ78 : Loc) (kc : KC) (H : PH) := ItemsC v77 (unp3K (key31 kc ℓ78)) H
noncomputable abbrev key33 (n : Nat) (k : KL) (v74 : PV) (c75 : Callee) (v50 v51 : PV) (ℓ48 : Loc) (v52 v86 : PV) (H : PH) := applyC (lv (n + 15)) v74 "append" [v86] c75 (noneK (unitK (CmpT .Eq v50 (.str "primary key") (SrcC v51 (key29 n k ℓ48 v50 v51 v52)) (k (((ℓ48.upd "word" v50).upd "rows" v51).upd "is_turned" v52))))) H
noncomputable abbrev key34 (n : Nat) (k : KL) (v74 : PV) (c75 : Callee) (v50 v51 : PV) (ℓ48 : Loc) (v52 v85 : PV) (H : PH) := allocC [v85, (.str "u")] (key33 n k v74 c75 v50 v51 ℓ48 v52) H
noncomputable abbrev key35 (n : Nat) (k : KL) (ℓ48 : Loc) (v50 v51 v52 v74 : PV) (c75 : Callee) (s76 : SL) (H : PH) := loopC s76.1 key32 s76.2 (locF [] (((ℓ48.upd "word" v50).upd "rows" v51).upd "is_turned" v52)) (allocK (key34 n k v74 c75 v50 v51 ℓ48 v52)) H
noncomputable abbrev key36 (n : Nat) (k : KL) (v51 : PV) (ℓ48 : Loc) (v50 v52 v74 : PV) (c75 : Callee) (H : PH) := SrcC v51 (key35 n k ℓ48 v50 v51 v52 v74 c75) H
noncomputable abbrev key37 (n : Nat) (k : KL) (v51 : PV) (ℓ48 : Loc) (v50 v52 v74 : PV) (H : PH) := CalleeC v74 "append" (key36 n k v51 ℓ48 v50 v52 v74) H
noncomputable abbrev key38 (n : Nat) (k : KL) (ℓ48 : Loc) (v50 v51 v52 : PV) (H : PH) := CmpT .Eq v50 (.str "unique") (optC (ℓ48 "keys") (key37 n k v51 ℓ48 v50 v52)) (CmpT .Eq v50 (.str "primary key") (SrcC v51 (key29 n k ℓ48 v50 v51 v52)) (k (((ℓ48.upd "word" v50).upd "rows" v51).upd "is_turned" v52))) H
noncomputable abbrev key39 (n : Nat) (v47 : PV) (ℓ48 : Loc) (k : KL) (H : PH) := ItemsC v47 (unp3K (key38 n k ℓ48)) H
noncomputable abbrev key40 (Q : KV) (v89 v90 v91 : PV) (H : PH) := allocC [v89, v90, v91] Q H
noncomputable abbrev key41 (Q : KV) (ℓ88 : Loc) (v89 v90 : PV) (H : PH) := optC (ℓ88 "keys") (key40 Q v89 v90) H
noncomputable abbrev key42 (Q : KV) (ℓ88 : Loc) (v89 : PV) (H : PH) := optC (ℓ88 "primary") (key41 Q ℓ88 v89) H
noncomputable abbrev key43 (Q : KV) (ℓ88 : Loc) (H : PH) := optC (ℓ88 "rowid") (key42 Q ℓ88) H
noncomputable abbrev key44 (n : Nat) (Q : KV) (ℓ32 : Loc) (s46 : SL) (H : PH) := loopF s46.1 (key39 n) s46.2 ℓ32 (key43 Q) H
noncomputable abbrev key45 (n : Nat) (Q : KV) (v33 : PV) (ℓ32 : Loc) (v44 : PV) (H : PH) := BinC .Add v33 v44 (srcK (key44 n Q ℓ32)) H
noncomputable abbrev key46 (n : Nat) (Q : KV) (ℓ32 : Loc) (v33 : PV) (s36 : SL) (H : PH) := loopC s36.1 key16 s36.2 (locF [] ℓ32) (allocK (key45 n Q v33 ℓ32)) H
noncomputable abbrev key47 (n : Nat) (Q : KV) (ℓ32 : Loc) (v33 : PV) (H : PH) := optC (ℓ32 "drawn") (subsK (.int 2) (srcK (key46 n Q ℓ32 v33))) H
noncomputable abbrev key48 (n : Nat) (Q : KV) (ℓ32 : Loc) (H : PH) := optC (ℓ32 "told") (key47 n Q ℓ32) H
noncomputable abbrev key49 (n : Nat) (Q : KV) (p_drawn v4 v5 v6 v7 : PV) (s9 : SL) (H : PH) := loopF s9.1 key13 s9.2 (((((noL.upd "drawn" p_drawn).upd "rowid" v4).upd "primary" v5).upd "keys" v6).upd "told" v7) (key48 n Q) H
noncomputable abbrev key50 (n : Nat) (Q : KV) (p_drawn v4 v5 v6 v7 : PV) (H : PH) := SubsC p_drawn (.int 1) (enumK (key49 n Q p_drawn v4 v5 v6 v7)) H
noncomputable abbrev key51 (n : Nat) (Q : KV) (p_drawn v4 v5 v6 : PV) (H : PH) := allocC [] (key50 n Q p_drawn v4 v5 v6) H
noncomputable abbrev key52 (n : Nat) (Q : KV) (v0 p_drawn v1 : PV) (H : PH) := tupC [.none, v0, v1] (itemsK (unp3K (key51 n Q p_drawn))) H
noncomputable abbrev key53 (n : Nat) (Q : KV) (p_drawn v0 : PV) (H : PH) := allocC [] (key52 n Q v0 p_drawn) H
noncomputable abbrev key_ (n : Nat) (Q : KV) (p_drawn : PV) (H : PH) := allocC [] (key53 n Q p_drawn) H
theorem key_c {n : Nat} {Q : KV} {p_drawn : PV} {H : PH} (h : key_ n Q p_drawn H) : CallC (lv (n + 20)) 951 [p_drawn] Q H := ⟨Eq.mpr (by kernel_rfl) h⟩
noncomputable abbrev aut0 (n : Nat) (k : KL) (v24 : PV) (c25 : Callee) (ℓ15 : Loc) (v17 v18 v19 v23 v29 : PV) (H : PH) := applyC (lv (n + 25)) v24 "append" [v29] c25 (noneK (unitK (k ((((ℓ15.upd "place" v17).upd "collation" v18).upd "turned" v19).upd "own" v23)))) H
noncomputable abbrev aut1 (n : Nat) (k : KL) (v17 v19 v24 : PV) (c25 : Callee) (ℓ15 : Loc) (v18 v23 v28 : PV) (H : PH) := tupC [v17, v28, v19] (aut0 n k v24 c25 ℓ15 v17 v18 v19 v23) H
noncomputable abbrev aut2 (n : Nat) (k : KL) (v26 v17 v19 v24 : PV) (c25 : Callee) (ℓ15 : Loc) (v18 v23 : PV) (c27 : Callee) (H : PH) := applyC (lv (n + 23)) v26 "lower" [] c27 (aut1 n k v17 v19 v24 c25 ℓ15 v18 v23) H
noncomputable abbrev aut3 (n : Nat) (k : KL) (v17 v19 v24 : PV) (c25 : Callee) (ℓ15 : Loc) (v18 v23 v26 : PV) (H : PH) := CalleeC v26 "lower" (aut2 n k v26 v17 v19 v24 c25 ℓ15 v18 v23) H
noncomputable abbrev aut4 (n : Nat) (k : KL) (v18 v17 v19 v24 : PV) (ℓ15 : Loc) (v23 : PV) (c25 : Callee) (H : PH) := CmpT .Is v18 .none ((aut3 n k v17 v19 v24 c25 ℓ15 v18 v23) v23) ((aut3 n k v17 v19 v24 c25 ℓ15 v18 v23) v18) H
noncomputable abbrev aut5 (n : Nat) (k : KL) (v18 v17 v19 : PV) (ℓ15 : Loc) (v23 v24 : PV) (H : PH) := CalleeC v24 "append" (aut4 n k v18 v17 v19 v24 ℓ15 v23) H
noncomputable abbrev aut6 (n : Nat) (k : KL) (ℓ15 : Loc) (v18 v17 v19 v23 : PV) (H : PH) := optC (ℓ15 "settled") (aut5 n k v18 v17 v19 ℓ15 v23) H
noncomputable abbrev aut7 (n : Nat) (k : KL) (ℓ15 : Loc) (v18 v17 v19 v22 : PV) (H : PH) := CallC (lv (n + 25)) 946 [v22, (.str "collate"), (.str "binary")] (aut6 n k ℓ15 v18 v17 v19) H
noncomputable abbrev aut8 (n : Nat) (k : KL) (ℓ15 : Loc) (v17 v18 v19 : PV) (H : PH) := optC (ℓ15 "drawn") (subsK (.int 1) (subsK v17 (aut7 n k ℓ15 v18 v17 v19))) H
noncomputable abbrev aut9 (n : Nat) (v14 : PV) (ℓ15 : Loc) (k : KL) (H : PH) := ItemsC v14 (unp3K (aut8 n k ℓ15)) H
noncomputable abbrev aut10 (kc : KC) (ℓ40 : Loc) (v39 v41 : PV) (H : PH) := kc ([v41], (ℓ40.upd "row" v39)) H
noncomputable abbrev aut11 (v39 : PV) (ℓ40 : Loc) (kc : KC) (H : PH) := SliceC v39 (.int 2) (aut10 kc ℓ40 v39) H
noncomputable abbrev aut12 (kc : KC) (ℓ36 : Loc) (v35 v43 : PV) (H : PH) := kc ([v43], (ℓ36.upd "other" v35)) H
noncomputable abbrev aut13 (kc : KC) (ℓ36 : Loc) (v35 : PV) (s38 : SL) (H : PH) := loopC s38.1 aut11 s38.2 (locF [] (ℓ36.upd "other" v35)) (allocK (aut12 kc ℓ36 v35)) H
noncomputable abbrev aut14 (v35 : PV) (ℓ36 : Loc) (kc : KC) (H : PH) := SubsC v35 (.int 0) (srcK (aut13 kc ℓ36 v35)) H
noncomputable abbrev aut15 (kc : KC) (ℓ55 : Loc) (v54 v56 : PV) (H : PH) := kc ([v56], (ℓ55.upd "row" v54)) H
noncomputable abbrev aut16 (v54 : PV) (ℓ55 : Loc) (kc : KC) (H : PH) := SliceC v54 (.int 2) (aut15 kc ℓ55 v54) H
noncomputable abbrev aut17 (kc : KC) (v51 v50 : PV) (ℓ48 : Loc) (v58 : PV) (H : PH) := CmpT .Eq v51 v58 (kc ([v50], ((ℓ48.upd "at" v50).upd "head" v51))) (kc ([], ((ℓ48.upd "at" v50).upd "head" v51))) H
noncomputable abbrev aut18 (kc : KC) (ℓ48 : Loc) (v50 v51 : PV) (s53 : SL) (H : PH) := loopC s53.1 aut16 s53.2 (locF [] ((ℓ48.upd "at" v50).upd "head" v51)) (allocK (aut17 kc v51 v50 ℓ48)) H
noncomputable abbrev aut19 (kc : KC) (ℓ48 : Loc) (v50 v51 : PV) (H : PH) := optC (ℓ48 "settled") (srcK (aut18 kc ℓ48 v50 v51)) H
noncomputable abbrev aut20 (v47 : PV) (ℓ48 : Loc) (kc : KC) (H : PH) := ItemsC v47 (unp2K (aut19 kc ℓ48)) H
noncomputable abbrev aut21 (n : Nat) (k : KL) (v61 : PV) (c62 : Callee) (ℓ31 : Loc) (v45 v60 v65 : PV) (H : PH) := applyC (lv (n + 24)) v61 "append" [v65] c62 (noneK (unitK (k ((ℓ31.upd "heads" v45).upd "likes" v60)))) H
noncomputable abbrev aut22 (n : Nat) (k : KL) (v63 v61 : PV) (c62 : Callee) (ℓ31 : Loc) (v45 v60 v64 : PV) (H : PH) := allocC [v63, v64] (aut21 n k v61 c62 ℓ31 v45 v60) H
noncomputable abbrev aut23 (n : Nat) (k : KL) (ℓ31 : Loc) (v61 : PV) (c62 : Callee) (v45 v60 v63 : PV) (H : PH) := optC (ℓ31 "origin") (aut22 n k v63 v61 c62 ℓ31 v45 v60) H
noncomputable abbrev aut24 (n : Nat) (k : KL) (ℓ31 : Loc) (v61 v45 v60 : PV) (c62 : Callee) (H : PH) := optC (ℓ31 "settled") (aut23 n k ℓ31 v61 c62 v45 v60) H
noncomputable abbrev aut25 (n : Nat) (k : KL) (ℓ31 : Loc) (v45 v60 v61 : PV) (H : PH) := CalleeC v61 "append" (aut24 n k ℓ31 v61 v45 v60) H
noncomputable abbrev aut26 (k : KL) (ℓ31 : Loc) (v45 v60 v69 : PV) (H : PH) := SetItemC v69 (.int 1) (.str "pk") (unitK (k ((ℓ31.upd "heads" v45).upd "likes" v60))) H
noncomputable abbrev aut27 (k : KL) (v67 : PV) (ℓ31 : Loc) (v45 v60 v68 : PV) (H : PH) := SubsC v67 v68 (aut26 k ℓ31 v45 v60) H
noncomputable abbrev aut28 (k : KL) (v60 : PV) (ℓ31 : Loc) (v45 v67 : PV) (H : PH) := SubsC v60 (.int 0) (aut27 k v67 ℓ31 v45 v60) H
noncomputable abbrev aut29 (n : Nat) (k : KL) (v60 : PV) (ℓ31 : Loc) (v45 v71 : PV) (H : PH) := CmpT .Eq v60 v71 (optC (ℓ31 "found") (aut25 n k ℓ31 v45 v60)) (optC (ℓ31 "origin") (cmpTK .Eq (.str "pk") (optC (ℓ31 "found") (aut28 k v60 ℓ31 v45)) (k ((ℓ31.upd "heads" v45).upd "likes" v60)))) H
noncomputable abbrev aut30 (n : Nat) (k : KL) (ℓ31 : Loc) (v45 v60 : PV) (H : PH) := allocC [] (aut29 n k v60 ℓ31 v45) H
noncomputable abbrev aut31 (n : Nat) (k : KL) (ℓ31 : Loc) (v45 : PV) (s46 : SL) (H : PH) := loopC s46.1 aut20 s46.2 (locF ["settled"] (ℓ31.upd "heads" v45)) (allocK (aut30 n k ℓ31 v45)) H
noncomputable abbrev aut32 (n : Nat) (k : KL) (ℓ31 : Loc) (v45 : PV) (H : PH) := EnumC v45 (aut31 n k ℓ31 v45) H
noncomputable abbrev aut33 (n : Nat) (k : KL) (ℓ31 : Loc) (s34 : SL) (H : PH) := loopC s34.1 aut14 s34.2 (locF [] ℓ31) (allocK (aut32 n k ℓ31)) H
noncomputable abbrev aut34 (kc : KC) (ℓ75 : Loc) (v74 v76 : PV) (H : PH) := kc ([v76], (ℓ75.upd "row" v74)) H
noncomputable abbrev aut35 (v74 : PV) (ℓ75 : Loc) (kc : KC) (H : PH) := SubsC v74 (.int 0) (aut34 kc ℓ75 v74) H
noncomputable abbrev aut36 (n : Nat) (k : KL) (v78 : PV) (ℓ31 : Loc) (v80 : PV) (H : PH) := CmpT .NotEq v78 v80 (optC (ℓ31 "found") (srcK (aut33 n k ℓ31))) (k ℓ31) H
noncomputable abbrev aut37 (n : Nat) (k : KL) (v78 : PV) (ℓ31 : Loc) (v79 : PV) (H : PH) := allocC [v79] (aut36 n k v78 ℓ31) H
noncomputable abbrev aut38 (n : Nat) (k : KL) (ℓ31 : Loc) (v78 : PV) (H : PH) := optC (ℓ31 "rowid") (aut37 n k v78 ℓ31) H
noncomputable abbrev aut39 (n : Nat) (k : KL) (ℓ31 : Loc) (s73 : SL) (H : PH) := loopC s73.1 aut35 s73.2 (locF [] ℓ31) (allocK (aut38 n k ℓ31)) H
noncomputable abbrev aut40 (n : Nat) (k : KL) (ℓ31 : Loc) (H : PH) := optC (ℓ31 "rows") (srcK (aut39 n k ℓ31)) H
noncomputable abbrev aut41 (n : Nat) (k : KL) (ℓ8 : Loc) (v10 v11 v12 : PV) (s13 : SL) (H : PH) := loopF s13.1 (aut9 n) s13.2 (((ℓ8.upd "rows" v10).upd "origin" v11).upd "settled" v12) (aut40 n k) H
noncomputable abbrev aut42 (n : Nat) (k : KL) (v10 : PV) (ℓ8 : Loc) (v11 v12 : PV) (H : PH) := SrcC v10 (aut41 n k ℓ8 v10 v11 v12) H
noncomputable abbrev aut43 (n : Nat) (k : KL) (ℓ8 : Loc) (v10 v11 : PV) (H : PH) := allocC [] (aut42 n k v10 ℓ8 v11) H
noncomputable abbrev aut44 (n : Nat) (v7 : PV) (ℓ8 : Loc) (k : KL) (H : PH) := ItemsC v7 (unp2K (aut43 n k ℓ8)) H
noncomputable abbrev aut45 (Q : KV) (ℓ81 : Loc) (H : PH) := optC (ℓ81 "found") Q H
noncomputable abbrev aut46 (n : Nat) (Q : KV) (p_drawn v2 v3 v4 v5 : PV) (s6 : SL) (H : PH) := loopF s6.1 (aut44 n) s6.2 (((((noL.upd "drawn" p_drawn).upd "rowid" v2).upd "primary" v3).upd "keys" v4).upd "found" v5) (aut45 Q) H
noncomputable abbrev aut47 (n : Nat) (Q : KV) (v4 p_drawn v2 v3 v5 : PV) (H : PH) := SrcC v4 (aut46 n Q p_drawn v2 v3 v4 v5) H
noncomputable abbrev aut48 (n : Nat) (Q : KV) (p_drawn v2 v3 v4 : PV) (H : PH) := allocC [] (aut47 n Q v4 p_drawn v2 v3) H
noncomputable abbrev aut_ (n : Nat) (Q : KV) (p_drawn : PV) (H : PH) := CallC (lv (n + 27)) 951 [p_drawn] (itemsK (unp3K (aut48 n Q p_drawn))) H
theorem aut_c {n : Nat} {Q : KV} {p_drawn : PV} {H : PH} (h : aut_ n Q p_drawn H) : CallC (lv (n + 30)) 956 [p_drawn] Q H := ⟨Eq.mpr (by kernel_rfl) h⟩
noncomputable abbrev clr0 (Q : KV) (k : KL) (v13 : PV) (ℓ3 : Loc) (v5 v6 v9 v15 : PV) (H : PH) := CmpT .NotEq v13 v15 (Q (.bool false)) (k (((ℓ3.upd "place" v5).upd "column" v6).upd "told" v9)) H
noncomputable abbrev clr1 (n : Nat) (Q : KV) (k : KL) (v6 : PV) (ℓ3 : Loc) (v5 v9 v13 : PV) (H : PH) := CallC (lv (n + 33)) 946 [v6, (.str "default"), (.int 0)] (builtK "repr" (clr0 Q k v13 ℓ3 v5 v6 v9)) H
noncomputable abbrev clr2 (kc : KC) (ℓ19 : Loc) (v21 v22 : PV) (H : PH) := kc ([v21], ((ℓ19.upd "key" v21).upd "detail" v22)) H
noncomputable abbrev clr3 (v18 : PV) (ℓ19 : Loc) (kc : KC) (H : PH) := ItemsC v18 (unp2K (clr2 kc ℓ19)) H
noncomputable abbrev clr4 (n : Nat) (Q : KV) (k : KL) (v9 : PV) (ℓ3 : Loc) (v5 v6 v24 : PV) (H : PH) := CmpT .NotIn (.str "default") v24 (AttrC v9 "default" (cmpTK .IsNot .none (Q (.bool false)) (k (((ℓ3.upd "place" v5).upd "column" v6).upd "told" v9)))) (AttrC v9 "default" (attrK "value" (builtK "repr" (clr1 n Q k v6 ℓ3 v5 v9)))) H
noncomputable abbrev clr5 (n : Nat) (Q : KV) (k : KL) (ℓ3 : Loc) (v5 v6 v9 : PV) (s17 : SL) (H : PH) := loopC s17.1 clr3 s17.2 (locF [] (((ℓ3.upd "place" v5).upd "column" v6).upd "told" v9)) (allocK (clr4 n Q k v9 ℓ3 v5 v6)) H
noncomputable abbrev clr6 (n : Nat) (Q : KV) (k : KL) (v25 : PV) (c26 : Callee) (v5 v6 : PV) (ℓ3 : Loc) (v9 v29 : PV) (H : PH) := applyC (lv (n + 34)) v25 "place_of" [v29] c26 (cmpTK .NotEq v5 (Q (.bool false)) (SubsC v6 (.int 3) (srcK (clr5 n Q k ℓ3 v5 v6 v9)))) H
noncomputable abbrev clr7 (n : Nat) (Q : KV) (k : KL) (v27 v25 : PV) (c26 : Callee) (v5 v6 : PV) (ℓ3 : Loc) (v9 : PV) (c28 : Callee) (H : PH) := applyC (lv (n + 33)) v27 "upper" [] c28 (clr6 n Q k v25 c26 v5 v6 ℓ3 v9) H
noncomputable abbrev clr8 (n : Nat) (Q : KV) (k : KL) (v25 : PV) (c26 : Callee) (v5 v6 : PV) (ℓ3 : Loc) (v9 v27 : PV) (H : PH) := CalleeC v27 "upper" (clr7 n Q k v27 v25 c26 v5 v6 ℓ3 v9) H
noncomputable abbrev clr9 (n : Nat) (Q : KV) (k : KL) (v6 v25 v5 : PV) (ℓ3 : Loc) (v9 : PV) (c26 : Callee) (H : PH) := SubsC v6 (.int 0) (clr8 n Q k v25 c26 v5 v6 ℓ3 v9) H
noncomputable abbrev clr10 (n : Nat) (Q : KV) (k : KL) (v6 v5 : PV) (ℓ3 : Loc) (v9 v25 : PV) (H : PH) := CalleeC v25 "place_of" (clr9 n Q k v6 v25 v5 ℓ3 v9) H
noncomputable abbrev clr11 (n : Nat) (Q : KV) (k : KL) (v32 : PV) (ℓ3 : Loc) (v6 v5 v9 v35 : PV) (H : PH) := CmpT .NotEq v32 v35 (Q (.bool false)) (optC (ℓ3 "table") (clr10 n Q k v6 v5 ℓ3 v9)) H
noncomputable abbrev clr12 (n : Nat) (Q : KV) (k : KL) (v33 v32 : PV) (ℓ3 : Loc) (v6 v5 v9 v34 : PV) (H : PH) := CmpC .In v33 v34 (clr11 n Q k v32 ℓ3 v6 v5 v9) H
noncomputable abbrev clr13 (n : Nat) (Q : KV) (k : KL) (v6 v32 : PV) (ℓ3 : Loc) (v5 v9 v33 : PV) (H : PH) := SubsC v6 (.int 3) (clr12 n Q k v33 v32 ℓ3 v6 v5 v9) H
noncomputable abbrev clr14 (n : Nat) (Q : KV) (k : KL) (v6 : PV) (ℓ3 : Loc) (v5 v9 v32 : PV) (H : PH) := tupC [(.str "not null"), .none] (clr13 n Q k v6 v32 ℓ3 v5 v9) H
noncomputable abbrev clr15 (n : Nat) (Q : KV) (k : KL) (v36 v9 v6 : PV) (ℓ3 : Loc) (v5 v39 : PV) (H : PH) := CmpT .NotEq v36 v39 (Q (.bool false)) (AttrC v9 "not_null" (typeK "bool" (clr14 n Q k v6 ℓ3 v5 v9))) H
noncomputable abbrev clr16 (n : Nat) (Q : KV) (k : KL) (v37 v36 v9 v6 : PV) (ℓ3 : Loc) (v5 : PV) (c38 : Callee) (H : PH) := applyC (lv (n + 35)) v37 "lower" [] c38 (clr15 n Q k v36 v9 v6 ℓ3 v5) H
noncomputable abbrev clr17 (n : Nat) (Q : KV) (k : KL) (v36 v9 v6 : PV) (ℓ3 : Loc) (v5 v37 : PV) (H : PH) := CalleeC v37 "lower" (clr16 n Q k v37 v36 v9 v6 ℓ3 v5) H
noncomputable abbrev clr18 (n : Nat) (Q : KV) (k : KL) (v6 v9 : PV) (ℓ3 : Loc) (v5 v36 : PV) (H : PH) := CallC (lv (n + 34)) 946 [v6, (.str "collate"), (.str "binary")] (clr17 n Q k v36 v9 v6 ℓ3 v5) H
noncomputable abbrev clr19 (n : Nat) (Q : KV) (k : KL) (v43 v9 v6 : PV) (ℓ3 : Loc) (v5 v47 : PV) (H : PH) := CmpT .NotEq v43 v47 (Q (.bool false)) (AttrC v9 "collation" (clr18 n Q k v6 v9 ℓ3 v5)) H
noncomputable abbrev clr20 (n : Nat) (Q : KV) (k : KL) (v44 v45 v43 v9 v6 : PV) (ℓ3 : Loc) (v5 v46 : PV) (H : PH) := tupC [v44, v45, v46] (clr19 n Q k v43 v9 v6 ℓ3 v5) H
noncomputable abbrev clr21 (n : Nat) (Q : KV) (k : KL) (v6 v44 v43 v9 : PV) (ℓ3 : Loc) (v5 v45 : PV) (H : PH) := SubsC v6 (.int 2) (clr20 n Q k v44 v45 v43 v9 v6 ℓ3 v5) H
noncomputable abbrev clr22 (n : Nat) (Q : KV) (k : KL) (v6 v43 v9 : PV) (ℓ3 : Loc) (v5 v44 : PV) (H : PH) := SubsC v6 (.int 1) (clr21 n Q k v6 v44 v43 v9 ℓ3 v5) H
noncomputable abbrev clr23 (n : Nat) (Q : KV) (k : KL) (v6 v9 : PV) (ℓ3 : Loc) (v5 v43 : PV) (H : PH) := SubsC v6 (.int 0) (clr22 n Q k v6 v43 v9 ℓ3 v5) H
noncomputable abbrev clr24 (n : Nat) (Q : KV) (k : KL) (v40 v41 v6 v9 : PV) (ℓ3 : Loc) (v5 v42 : PV) (H : PH) := tupC [v40, v41, v42] (clr23 n Q k v6 v9 ℓ3 v5) H
noncomputable abbrev clr25 (n : Nat) (Q : KV) (k : KL) (v9 v40 v6 : PV) (ℓ3 : Loc) (v5 v41 : PV) (H : PH) := AttrC v9 "affinity" (clr24 n Q k v40 v41 v6 v9 ℓ3 v5) H
noncomputable abbrev clr26 (n : Nat) (Q : KV) (k : KL) (v9 v6 : PV) (ℓ3 : Loc) (v5 v40 : PV) (H : PH) := AttrC v9 "type_name" (clr25 n Q k v9 v40 v6 ℓ3 v5) H
noncomputable abbrev clr27 (n : Nat) (Q : KV) (k : KL) (v6 : PV) (ℓ3 : Loc) (v5 v9 : PV) (H : PH) := AttrC v9 "name" (clr26 n Q k v9 v6 ℓ3 v5) H
noncomputable abbrev clr28 (n : Nat) (Q : KV) (k : KL) (ℓ3 : Loc) (v5 v6 : PV) (H : PH) := optC (ℓ3 "table") (attrK "columns" (subsK v5 (clr27 n Q k v6 ℓ3 v5))) H
noncomputable abbrev clr29 (n : Nat) (Q : KV) (v2 : PV) (ℓ3 : Loc) (k : KL) (H : PH) := ItemsC v2 (unp2K (clr28 n Q k ℓ3)) H
noncomputable abbrev clr30 (n : Nat) (Q : KV) (v60 : PV) (c61 : Callee) (H : PH) := applyC (lv (n + 35)) v60 "place_of" [(.str "zz")] c61 (cmpK .Is .none Q) H
noncomputable abbrev clr31 (n : Nat) (Q : KV) (v60 : PV) (H : PH) := CalleeC v60 "place_of" (clr30 n Q v60) H
noncomputable abbrev clr32 (n : Nat) (Q : KV) (ℓ48 : Loc) (v59 : PV) (H : PH) := testC v59 (optC (ℓ48 "table") (clr31 n Q)) (Q v59) H
noncomputable abbrev clr33 (n : Nat) (Q : KV) (v57 : PV) (ℓ48 : Loc) (v58 : PV) (H : PH) := CmpC .Eq v57 v58 (clr32 n Q ℓ48) H
noncomputable abbrev clr34 (n : Nat) (Q : KV) (ℓ48 : Loc) (v57 : PV) (H : PH) := UnC .USub (.int 1) (clr33 n Q v57 ℓ48) H
noncomputable abbrev clr35 (n : Nat) (Q : KV) (v55 : PV) (ℓ48 : Loc) (c56 : Callee) (H : PH) := applyC (lv (n + 35)) v55 "place_of" [(.str "oid")] c56 (clr34 n Q ℓ48) H
noncomputable abbrev clr36 (n : Nat) (Q : KV) (ℓ48 : Loc) (v55 : PV) (H : PH) := CalleeC v55 "place_of" (clr35 n Q v55 ℓ48) H
noncomputable abbrev clr37 (n : Nat) (Q : KV) (ℓ48 : Loc) (v54 : PV) (H : PH) := testC v54 (optC (ℓ48 "table") (clr36 n Q ℓ48)) (Q v54) H
noncomputable abbrev clr38 (n : Nat) (Q : KV) (v52 : PV) (ℓ48 : Loc) (v53 : PV) (H : PH) := CmpC .Eq v52 v53 (clr37 n Q ℓ48) H
noncomputable abbrev clr39 (n : Nat) (Q : KV) (ℓ48 : Loc) (v52 : PV) (H : PH) := UnC .USub (.int 1) (clr38 n Q v52 ℓ48) H
noncomputable abbrev clr40 (n : Nat) (Q : KV) (v50 : PV) (ℓ48 : Loc) (c51 : Callee) (H : PH) := applyC (lv (n + 35)) v50 "place_of" [(.str "RowId")] c51 (clr39 n Q ℓ48) H
noncomputable abbrev clr41 (n : Nat) (Q : KV) (ℓ48 : Loc) (v50 : PV) (H : PH) := CalleeC v50 "place_of" (clr40 n Q v50 ℓ48) H
noncomputable abbrev clr42 (n : Nat) (Q : KV) (ℓ48 : Loc) (H : PH) := optC (ℓ48 "table") (clr41 n Q ℓ48) H
noncomputable abbrev clr43 (n : Nat) (Q : KV) (p_table p_drawn : PV) (s1 : SL) (H : PH) := loopF s1.1 (clr29 n Q) s1.2 ((noL.upd "table" p_table).upd "drawn" p_drawn) (clr42 n Q) H
noncomputable abbrev clr44 (kc : KC) (ℓ69 : Loc) (v68 v70 : PV) (H : PH) := kc ([v70], (ℓ69.upd "column" v68)) H
noncomputable abbrev clr45 (v68 : PV) (ℓ69 : Loc) (kc : KC) (H : PH) := SubsC v68 (.int 2) (clr44 kc ℓ69 v68) H
noncomputable abbrev clr46 (n : Nat) (Q : KV) (v65 p_drawn p_table v72 : PV) (H : PH) := CmpT .NotEq v65 v72 (Q (.bool false)) (SubsC p_drawn (.int 1) (enumK (clr43 n Q p_table p_drawn))) H
noncomputable abbrev clr47 (n : Nat) (Q : KV) (p_table p_drawn v65 : PV) (s67 : SL) (H : PH) := loopC s67.1 clr45 s67.2 (locF [] ((noL.upd "table" p_table).upd "drawn" p_drawn)) (allocK (clr46 n Q v65 p_drawn p_table)) H
noncomputable abbrev clr48 (n : Nat) (Q : KV) (p_drawn p_table v65 : PV) (H : PH) := SubsC p_drawn (.int 1) (srcK (clr47 n Q p_table p_drawn v65)) H
noncomputable abbrev clr49 (n : Nat) (Q : KV) (p_table p_drawn : PV) (c64 : Callee) (H : PH) := applyC (lv (n + 35)) p_table "affinities" [] c64 (clr48 n Q p_drawn p_table) H
noncomputable abbrev clr50 (n : Nat) (Q : KV) (v74 p_table p_drawn v76 : PV) (H : PH) := CmpT .NotEq v74 v76 (Q (.bool false)) (CalleeC p_table "affinities" (clr49 n Q p_table p_drawn)) H
noncomputable abbrev clr51 (n : Nat) (Q : KV) (p_drawn p_table v74 : PV) (H : PH) := SubsC p_drawn (.int 1) (builtK "len" (clr50 n Q v74 p_table p_drawn)) H
noncomputable abbrev clr_ (n : Nat) (Q : KV) (p_drawn p_table : PV) (H : PH) := AttrC p_table "columns" (builtK "len" (clr51 n Q p_drawn p_table)) H
theorem clr_c {n : Nat} {Q : KV} {p_drawn p_table : PV} {H : PH} (h : clr_ n Q p_drawn p_table H) : CallC (lv (n + 40)) 961 [p_drawn, p_table] Q H := ⟨Eq.mpr (by kernel_rfl) h⟩
noncomputable abbrev tbr0 (Q : KV) (k : KL) (v21 v12 : PV) (ℓ9 : Loc) (v11 v19 v24 : PV) (H : PH) := CmpT .NotEq v21 v24 (Q (.bool false)) (AttrC v12 "unique" (cmpTK .IsNot (.bool true) (Q (.bool false)) (k (((ℓ9.upd "at" v11).upd "index" v12).upd "name" v19)))) H
noncomputable abbrev tbr1 (Q : KV) (k : KL) (ℓ9 : Loc) (v11 v12 v19 v21 : PV) (H : PH) := optC (ℓ9 "autos") (subsK v11 (subsK (.int 1) (tbr0 Q k v21 v12 ℓ9 v11 v19))) H
noncomputable abbrev tbr2 (Q : KV) (k : KL) (v25 v12 : PV) (ℓ9 : Loc) (v11 v19 v28 : PV) (H : PH) := CmpT .NotEq v25 v28 (Q (.bool false)) (AttrC v12 "origin" (tbr1 Q k ℓ9 v11 v12 v19)) H
noncomputable abbrev tbr3 (Q : KV) (k : KL) (ℓ9 : Loc) (v11 v12 v19 v25 : PV) (H : PH) := optC (ℓ9 "autos") (subsK v11 (subsK (.int 0) (tbr2 Q k v25 v12 ℓ9 v11 v19))) H
noncomputable abbrev tbr4 (Q : KV) (k : KL) (v33 v12 : PV) (ℓ9 : Loc) (v11 v19 v39 : PV) (H : PH) := CmpT .NotEq v33 v39 (Q (.bool false)) (AttrC v12 "columns" (tbr3 Q k ℓ9 v11 v12 v19)) H
noncomputable abbrev tbr5 (Q : KV) (k : KL) (v19 v35 v33 v12 : PV) (ℓ9 : Loc) (v11 v38 : PV) (H : PH) := tupC [v19, v35, v38, .none] (tbr4 Q k v33 v12 ℓ9 v11 v19) H
noncomputable abbrev tbr6 (Q : KV) (k : KL) (v36 v19 v35 v33 v12 : PV) (ℓ9 : Loc) (v11 v37 : PV) (H : PH) := SubsC v36 v37 (tbr5 Q k v19 v35 v33 v12 ℓ9 v11) H
noncomputable abbrev tbr7 (Q : KV) (k : KL) (v11 v19 v35 v33 v12 : PV) (ℓ9 : Loc) (v36 : PV) (H : PH) := BinC .Add v11 (.int 1) (tbr6 Q k v36 v19 v35 v33 v12 ℓ9 v11) H
noncomputable abbrev tbr8 (Q : KV) (k : KL) (ℓ9 : Loc) (v11 v19 v33 v12 v35 : PV) (H : PH) := optC (ℓ9 "roots") (tbr7 Q k v11 v19 v35 v33 v12 ℓ9) H
noncomputable abbrev tbr9 (Q : KV) (k : KL) (ℓ9 : Loc) (v11 v19 v12 v33 : PV) (H : PH) := optC (ℓ9 "drawn") (subsK (.int 0) (tbr8 Q k ℓ9 v11 v19 v33 v12)) H
noncomputable abbrev tbr10 (Q : KV) (k : KL) (v29 v30 v31 : PV) (ℓ9 : Loc) (v11 v19 v12 v32 : PV) (H : PH) := tupC [v29, v30, v31, v32] (tbr9 Q k ℓ9 v11 v19 v12) H
noncomputable abbrev tbr11 (Q : KV) (k : KL) (v12 v29 v30 : PV) (ℓ9 : Loc) (v11 v19 v31 : PV) (H : PH) := AttrC v12 "sql" (tbr10 Q k v29 v30 v31 ℓ9 v11 v19 v12) H
noncomputable abbrev tbr12 (Q : KV) (k : KL) (v12 v29 : PV) (ℓ9 : Loc) (v11 v19 v30 : PV) (H : PH) := AttrC v12 "root" (tbr11 Q k v12 v29 v30 ℓ9 v11 v19) H
noncomputable abbrev tbr13 (Q : KV) (k : KL) (v12 : PV) (ℓ9 : Loc) (v11 v19 v29 : PV) (H : PH) := AttrC v12 "table" (tbr12 Q k v12 v29 ℓ9 v11 v19) H
noncomputable abbrev tbr14 (Q : KV) (k : KL) (v12 : PV) (ℓ9 : Loc) (v11 v19 : PV) (H : PH) := AttrC v12 "name" (tbr13 Q k v12 ℓ9 v11 v19) H
noncomputable abbrev tbr15 (Q : KV) (k : KL) (v16 v12 : PV) (ℓ9 : Loc) (v11 v18 : PV) (H : PH) := BinC .Add v16 v18 (tbr14 Q k v12 ℓ9 v11) H
noncomputable abbrev tbr16 (Q : KV) (k : KL) (v11 v12 : PV) (ℓ9 : Loc) (v16 : PV) (H : PH) := BinC .Add v11 (.int 1) (typeK "str" (tbr15 Q k v16 v12 ℓ9 v11)) H
noncomputable abbrev tbr17 (Q : KV) (k : KL) (v11 v12 : PV) (ℓ9 : Loc) (v14 : PV) (H : PH) := BinC .Add (.str "pagebase_auto_") v14 (binK .Add (.str "_") (tbr16 Q k v11 v12 ℓ9)) H
noncomputable abbrev tbr18 (Q : KV) (k : KL) (ℓ9 : Loc) (v11 v12 : PV) (H : PH) := optC (ℓ9 "drawn") (subsK (.int 0) (tbr17 Q k v11 v12 ℓ9)) H
noncomputable abbrev tbr19 (Q : KV) (v8 : PV) (ℓ9 : Loc) (k : KL) (H : PH) := ItemsC v8 (unp2K (tbr18 Q k ℓ9)) H
noncomputable abbrev tbr20 (Q : KV) (ℓ40 : Loc) (H : PH) := Q (.bool true) H
noncomputable abbrev tbr21 (Q : KV) (p_roots p_table p_drawn v2 v3 v4 v5 : PV) (s7 : SL) (H : PH) := loopF s7.1 (tbr19 Q) s7.2 (((((((noL.upd "roots" p_roots).upd "table" p_table).upd "drawn" p_drawn).upd "rowid" v2).upd "primary" v3).upd "keys" v4).upd "autos" v5) (tbr20 Q) H
noncomputable abbrev tbr22 (n : Nat) (Q : KV) (v43 p_drawn p_table p_roots v2 v3 v4 v5 v44 : PV) (H : PH) := CmpT .NotEq v43 v44 (Q (.bool false)) (CallC (lv (n + 44)) 961 [p_drawn, p_table] (testK (AttrC p_table "indexes" (enumK (tbr21 Q p_roots p_table p_drawn v2 v3 v4 v5))) (Q (.bool false)))) H
noncomputable abbrev tbr23 (n : Nat) (Q : KV) (v5 p_drawn p_table p_roots v2 v3 v4 v43 : PV) (H : PH) := BuiltC "len" [v5] (tbr22 n Q v43 p_drawn p_table p_roots v2 v3 v4 v5) H
noncomputable abbrev tbr24 (n : Nat) (Q : KV) (p_table p_drawn p_roots v2 v3 v4 v5 : PV) (H : PH) := AttrC p_table "indexes" (builtK "len" (tbr23 n Q v5 p_drawn p_table p_roots v2 v3 v4)) H
noncomputable abbrev tbr25 (n : Nat) (Q : KV) (v49 p_drawn p_table p_roots v2 v3 v4 v52 : PV) (H : PH) := CmpT .NotEq v49 v52 (Q (.bool false)) (CallC (lv (n + 47)) 956 [p_drawn] (tbr24 n Q p_table p_drawn p_roots v2 v3 v4)) H
noncomputable abbrev tbr26 (n : Nat) (Q : KV) (v50 v2 v3 v49 p_drawn p_table p_roots v4 v51 : PV) (H : PH) := tupC [v50, v51, v2, v3] (tbr25 n Q v49 p_drawn p_table p_roots v2 v3 v4) H
noncomputable abbrev tbr27 (n : Nat) (Q : KV) (p_roots v2 v3 v49 p_drawn p_table v4 v50 : PV) (H : PH) := SubsC p_roots (.int 0) (tbr26 n Q v50 v2 v3 v49 p_drawn p_table p_roots v4) H
noncomputable abbrev tbr28 (n : Nat) (Q : KV) (p_drawn p_roots v2 v3 p_table v4 v49 : PV) (H : PH) := SubsC p_drawn (.int 0) (tbr27 n Q p_roots v2 v3 v49 p_drawn p_table v4) H
noncomputable abbrev tbr29 (n : Nat) (Q : KV) (v45 v46 v47 p_drawn p_roots v2 v3 p_table v4 v48 : PV) (H : PH) := tupC [v45, v46, v47, v48] (tbr28 n Q p_drawn p_roots v2 v3 p_table v4) H
noncomputable abbrev tbr30 (n : Nat) (Q : KV) (p_table v45 v46 p_drawn p_roots v2 v3 v4 v47 : PV) (H : PH) := AttrC p_table "primary" (tbr29 n Q v45 v46 v47 p_drawn p_roots v2 v3 p_table v4) H
noncomputable abbrev tbr31 (n : Nat) (Q : KV) (p_table v45 p_drawn p_roots v2 v3 v4 v46 : PV) (H : PH) := AttrC p_table "rowid_place" (tbr30 n Q p_table v45 v46 p_drawn p_roots v2 v3 v4) H
noncomputable abbrev tbr32 (n : Nat) (Q : KV) (p_table p_drawn p_roots v2 v3 v4 v45 : PV) (H : PH) := AttrC p_table "root" (tbr31 n Q p_table v45 p_drawn p_roots v2 v3 v4) H
noncomputable abbrev tbr33 (n : Nat) (Q : KV) (p_table p_drawn p_roots v2 v3 v4 : PV) (H : PH) := AttrC p_table "name" (tbr32 n Q p_table p_drawn p_roots v2 v3 v4) H
noncomputable abbrev tbr_ (n : Nat) (Q : KV) (p_drawn p_table p_roots : PV) (H : PH) := CallC (lv (n + 47)) 951 [p_drawn] (itemsK (unp3K (tbr33 n Q p_table p_drawn p_roots))) H
theorem tbr_c {n : Nat} {Q : KV} {p_drawn p_table p_roots : PV} {H : PH} (h : tbr_ n Q p_drawn p_table p_roots H) : CallC (lv (n + 50)) 968 [p_drawn, p_table, p_roots] Q H := ⟨Eq.mpr (by kernel_rfl) h⟩
noncomputable abbrev law0 (v16 : PV) (ℓ17 : Loc) (kc : KC) (H : PH) := AttrC v16 "root" (cmpTK .NotEq (.int 0) (kc ([v16], (ℓ17.upd "index" v16))) (kc ([], (ℓ17.upd "index" v16)))) H
noncomputable abbrev law1 (Q : KV) (k : KL) (v20 : PV) (ℓ7 : Loc) (v6 v10 v13 v21 : PV) (H : PH) := CmpT .NotEq v20 v21 (Q (.bool false)) (k (((ℓ7.upd "k" v6).upd "drawn" v10).upd "bare" v13)) H
noncomputable abbrev law2 (Q : KV) (k : KL) (ℓ7 : Loc) (v6 v10 v13 v20 : PV) (H : PH) := allocC [] (law1 Q k v20 ℓ7 v6 v10 v13) H
noncomputable abbrev law3 (Q : KV) (k : KL) (ℓ7 : Loc) (v6 v10 v13 : PV) (s15 : SL) (H : PH) := loopC s15.1 law0 s15.2 (locF [] (((ℓ7.upd "k" v6).upd "drawn" v10).upd "bare" v13)) (allocK (law2 Q k ℓ7 v6 v10 v13)) H
noncomputable abbrev law4 (Q : KV) (k : KL) (ℓ7 : Loc) (v6 v10 v13 : PV) (H : PH) := AttrC v13 "root" (cmpTK .NotEq (.int 0) (Q (.bool false)) (AttrC v13 "indexes" (srcK (law3 Q k ℓ7 v6 v10 v13)))) H
noncomputable abbrev law5 (n : Nat) (Q : KV) (k : KL) (ℓ7 : Loc) (v6 v10 v12 : PV) (H : PH) := CallC (lv (n + 85)) 894 [v12] (law4 Q k ℓ7 v6 v10) H
noncomputable abbrev law6 (n : Nat) (Q : KV) (k : KL) (v10 v25 v6 : PV) (ℓ7 : Loc) (v26 : PV) (H : PH) := CallC (lv (n + 84)) 968 [v10, v25, v26] (testK (CmpT .Eq v6 (.int 1) (CallC (lv (n + 84)) 939 [v10] (law5 n Q k ℓ7 v6 v10)) (k ((ℓ7.upd "k" v6).upd "drawn" v10))) (Q (.bool false))) H
noncomputable abbrev law7 (n : Nat) (Q : KV) (k : KL) (ℓ7 : Loc) (v10 v6 v25 : PV) (H : PH) := optC (ℓ7 "roots") (law6 n Q k v10 v25 v6 ℓ7) H
noncomputable abbrev law8 (n : Nat) (Q : KV) (k : KL) (v23 : PV) (ℓ7 : Loc) (v10 v6 v24 : PV) (H : PH) := CallC (lv (n + 83)) 894 [v23, v24] (law7 n Q k ℓ7 v10 v6) H
noncomputable abbrev law9 (n : Nat) (Q : KV) (k : KL) (ℓ7 : Loc) (v10 v6 v23 : PV) (H : PH) := optC (ℓ7 "roots") (law8 n Q k v23 ℓ7 v10 v6) H
noncomputable abbrev law10 (n : Nat) (Q : KV) (k : KL) (ℓ7 : Loc) (v6 v10 : PV) (H : PH) := CallC (lv (n + 82)) 939 [v10] (law9 n Q k ℓ7 v10 v6) H
noncomputable abbrev law11 (n : Nat) (Q : KV) (k : KL) (ℓ7 : Loc) (v6 v9 : PV) (H : PH) := CallC (lv (n + 86)) 934 [v9] (law10 n Q k ℓ7 v6) H
noncomputable abbrev law12 (n : Nat) (Q : KV) (k : KL) (v6 : PV) (ℓ7 : Loc) (v8 : PV) (H : PH) := CallC (lv (n + 85)) 908 [v8, v6] (law11 n Q k ℓ7 v6) H
noncomputable abbrev law13 (n : Nat) (Q : KV) (v6 : PV) (ℓ7 : Loc) (k : KL) (H : PH) := optC (ℓ7 "script") (law12 n Q k v6 ℓ7) H
noncomputable abbrev law14 (Q : KV) (ℓ28 : Loc) (H : PH) := Q (.bool true) H
noncomputable abbrev law15 (n : Nat) (Q : KV) (p_script v0 : PV) (s5 : SL) (H : PH) := loopF s5.1 (law13 n Q) s5.2 ((noL.upd "script" p_script).upd "roots" v0) (law14 Q) H
noncomputable abbrev law16 (n : Nat) (Q : KV) (p_script v0 v2 : PV) (H : PH) := BuiltC "max" [(.int 1), v2] (typeK "range" (srcK (law15 n Q p_script v0))) H
noncomputable abbrev law17 (n : Nat) (Q : KV) (p_script v0 v1 : PV) (H : PH) := BuiltC "min" [v1, (.int 2)] (law16 n Q p_script v0) H
noncomputable abbrev law18 (n : Nat) (Q : KV) (p_script v0 : PV) (H : PH) := BuiltC "len" [p_script] (law17 n Q p_script v0) H
noncomputable abbrev law_ (n : Nat) (Q : KV) (p_script : PV) (H : PH) := allocC [(.int 11), (.int 12), (.int 13), (.int 14), (.int 15), (.int 16), (.int 17), (.int 18), (.int 19)] (law18 n Q p_script) H
theorem law_c {n : Nat} {Q : KV} {p_script : PV} {H : PH} (h : law_ n Q p_script H) : CallC (lv (n + 90)) 973 [p_script] Q H := ⟨Eq.mpr (by kernel_rfl) h⟩
noncomputable abbrev iLit_ (n : Nat) (Q : KV) (p_self p_value : PV) (H : PH) := SetAttrC p_self "value" p_value (unitK (Q .none)) H
theorem iLit_c {n : Nat} {Q : KV} {p_self p_value : PV} {H : PH} (h : iLit_ n Q p_self p_value H) : CallC (lv (n + 6)) 134 [p_self, p_value] Q H := ⟨Eq.mpr (by kernel_rfl) h⟩
noncomputable abbrev iCde_ (n : Nat) (Q : KV) (p_self p_name p_type_name p_constraints : PV) (H : PH) := SetAttrC p_self "name" p_name (unitK (SetAttrC p_self "type_name" p_type_name (unitK (SetAttrC p_self "constraints" p_constraints (unitK (Q .none)))))) H
theorem iCde_c {n : Nat} {Q : KV} {p_self p_name p_type_name p_constraints : PV} {H : PH} (h : iCde_ n Q p_self p_name p_type_name p_constraints H) : CallC (lv (n + 6)) 522 [p_self, p_name, p_type_name, p_constraints] Q H := ⟨Eq.mpr (by kernel_rfl) h⟩
noncomputable abbrev iIxc_ (n : Nat) (Q : KV) (p_self p_name p_collation p_descending : PV) (H : PH) := SetAttrC p_self "name" p_name (unitK (SetAttrC p_self "collation" p_collation (unitK (SetAttrC p_self "descending" p_descending (unitK (Q .none)))))) H
theorem iIxc_c {n : Nat} {Q : KV} {p_self p_name p_collation p_descending : PV} {H : PH} (h : iIxc_ n Q p_self p_name p_collation p_descending H) : CallC (lv (n + 6)) 548 [p_self, p_name, p_collation, p_descending] Q H := ⟨Eq.mpr (by kernel_rfl) h⟩
noncomputable abbrev iTco_ (n : Nat) (Q : KV) (p_self p_kind p_columns p_check : PV) (H : PH) := SetAttrC p_self "kind" p_kind (unitK (SetAttrC p_self "columns" p_columns (unitK (SetAttrC p_self "check" p_check (unitK (Q .none)))))) H
theorem iTco_c {n : Nat} {Q : KV} {p_self p_kind p_columns p_check : PV} {H : PH} (h : iTco_ n Q p_self p_kind p_columns p_check H) : CallC (lv (n + 6)) 574 [p_self, p_kind, p_columns, p_check] Q H := ⟨Eq.mpr (by kernel_rfl) h⟩
noncomputable abbrev iCta_ (n : Nat) (Q : KV) (p_self p_name p_columns p_constraints p_if_missing p_text : PV) (H : PH) := SetAttrC p_self "name" p_name (unitK (SetAttrC p_self "columns" p_columns (unitK (SetAttrC p_self "constraints" p_constraints (unitK (SetAttrC p_self "if_missing" p_if_missing (unitK (SetAttrC p_self "text" p_text (unitK (Q .none)))))))))) H
theorem iCta_c {n : Nat} {Q : KV} {p_self p_name p_columns p_constraints p_if_missing p_text : PV} {H : PH} (h : iCta_ n Q p_self p_name p_columns p_constraints p_if_missing p_text H) : CallC (lv (n + 6)) 600 [p_self, p_name, p_columns, p_constraints, p_if_missing, p_text] Q H := ⟨Eq.mpr (by kernel_rfl) h⟩
noncomputable abbrev whl0 (n : Nat) (Q : KV) (k : KL) (v0 : PV) (c1 : Callee) (ℓ0 : Loc) (v8 : PV) (H : PH) := applyC (lv (n + 18)) v0 "append" [v8] c1 (noneK (unitK ((lv (n + 20)).ex (pf 125).scope ℓ0 st125 Q k))) H
noncomputable abbrev whl1 (n : Nat) (Q : KV) (k : KL) (v2 : PV) (c3 : Callee) (v0 : PV) (c1 : Callee) (ℓ0 : Loc) (v7 : PV) (H : PH) := applyC (lv (n + 17)) v2 "pop" [v7] c3 (whl0 n Q k v0 c1 ℓ0) H
noncomputable abbrev whl2 (n : Nat) (Q : KV) (k : KL) (v4 v2 : PV) (c3 : Callee) (v0 : PV) (c1 : Callee) (ℓ0 : Loc) (v6 : PV) (H : PH) := CallC (lv (n + 16)) 915 [v4, v6] (whl1 n Q k v2 c3 v0 c1 ℓ0) H
noncomputable abbrev whl3 (n : Nat) (Q : KV) (k : KL) (ℓ0 : Loc) (v2 : PV) (c3 : Callee) (v0 : PV) (c1 : Callee) (v4 : PV) (H : PH) := optC (ℓ0 "left") (builtK "len" (whl2 n Q k v4 v2 c3 v0 c1 ℓ0)) H
noncomputable abbrev whl4 (n : Nat) (Q : KV) (k : KL) (ℓ0 : Loc) (v2 v0 : PV) (c1 c3 : Callee) (H : PH) := optC (ℓ0 "source") (whl3 n Q k ℓ0 v2 c3 v0 c1) H
noncomputable abbrev whl5 (n : Nat) (Q : KV) (k : KL) (ℓ0 : Loc) (v0 : PV) (c1 : Callee) (v2 : PV) (H : PH) := CalleeC v2 "pop" (whl4 n Q k ℓ0 v2 v0 c1) H
noncomputable abbrev whl6 (n : Nat) (Q : KV) (k : KL) (ℓ0 : Loc) (v0 : PV) (c1 : Callee) (H : PH) := optC (ℓ0 "left") (whl5 n Q k ℓ0 v0 c1) H
noncomputable abbrev whl7 (n : Nat) (Q : KV) (k : KL) (ℓ0 : Loc) (v0 : PV) (H : PH) := CalleeC v0 "append" (whl6 n Q k ℓ0 v0) H
noncomputable abbrev whl8 (n : Nat) (Q : KV) (k : KL) (v10 : PV) (ℓ0 : Loc) (v11 : PV) (H : PH) := CmpT .NotEq v10 v11 (optC (ℓ0 "drawn") (whl7 n Q k ℓ0)) (k ℓ0) H
noncomputable abbrev whl9 (n : Nat) (Q : KV) (k : KL) (ℓ0 : Loc) (v10 : PV) (H : PH) := allocC [] (whl8 n Q k v10 ℓ0) H
noncomputable abbrev whl_ (n : Nat) (Q : KV) (k : KL) (ℓ0 : Loc) (H : PH) := optC (ℓ0 "left") (whl9 n Q k ℓ0) H
theorem whl_c {n : Nat} {Q : KV} {k : KL} {ℓ0 : Loc} {H : PH} (h : whl_ n Q k ℓ0 H) : (lv (n + 21)).ex (pf 125).scope ℓ0 st125 Q k H := Eq.mpr (by kernel_rfl) h
end Mine
namespace Mine
open PySem
structure At (H : PH) (i : Nat) (o : PO) : Prop where
  lt : i < H.next
  get : H.get i = some o
structure Ge (H H' : PH) : Prop where
  le : H.next ≤ H'.next
  eq : ∀ i, i < H.next → H'.get i = H.get i
section
variable {H H' H'' : PH} {i j : Nat} {o x : PO}
theorem At.new : At (H.push o) H.next o := ⟨Nat.lt_succ_self _, if_pos rfl⟩
theorem At.ge (g : Ge H H') (h : At H i o) : At H' i o := ⟨Nat.lt_of_lt_of_le h.lt g.le, (g.eq i h.lt).trans h.get⟩
theorem Ge.refl : Ge H H := ⟨Nat.le_refl _, fun _ _ => rfl⟩
theorem Ge.trans (a : Ge H H') (b : Ge H' H'') : Ge H H'' := ⟨Nat.le_trans a.le b.le, fun i h => (b.eq i (Nat.lt_of_lt_of_le h a.le)).trans (a.eq i h)⟩
theorem Ge.push : Ge H (H.push o) := ⟨Nat.le_succ _, fun i h => if_neg (Nat.ne_of_lt h)⟩
theorem Ge.push' (a : Ge H H') : Ge H (H'.push o) := a.trans .push
theorem Ge.set (a : Ge H H') (h : H.next ≤ i) : Ge H (H'.set i o) := ⟨a.le, fun j hj => (if_neg (Nat.ne_of_lt (Nat.lt_of_lt_of_le hj h))).trans (a.eq j hj)⟩
theorem At.push (h : At H i o) : At (H.push x) i o := h.ge .push
theorem At.set (h : At H i o) : At (H.set i x) i x := ⟨h.lt, if_pos rfl⟩
theorem At.setE {y : PO} (h : At H i o) (e : x = y) : At (H.set i x) i y := e ▸ h.set
theorem At.ty (h : At H i o) (e : o = x) : At H i x := e ▸ h
theorem At.setne (h : At H i o) (n : i ≠ j) : At (H.set j x) i o := ⟨h.lt, (if_neg n).trans h.get⟩
theorem At.inj (h : At H i o) (h' : At H i x) : o = x := Option.some.inj (h.get.symm.trans h'.get)
end
theorem upd_hd {ℓ : Loc} {x : Str} {v : PV} : (ℓ.upd x v) x = some v := if_pos rfl
section
variable {A B : Prop} {b : Bool}
theorem c_T (h : b = true) (k : A) : cond b A B := by subst h; exact k
theorem c_F (h : b = false) (k : B) : cond b A B := by subst h; exact k
theorem c_if {p : Prop} [Decidable p] (a : p → A) (k : ¬ p → B) : cond (decide p) A B := by
  by_cases h : p
  · rw [decide_eq_true h]; exact a h
  · rw [decide_eq_false h]; exact k h
theorem c_eq {α : Type} [BEq α] [LawfulBEq α] {x y : α} (a : x = y → A) (k : x ≠ y → B) : cond (x == y) A B := by
  cases h : x == y with
  | true => exact a (eq_of_beq h)
  | false => exact k fun e => by rw [e, beq_self_eq_true] at h; cases h
theorem c_b (a : b = true → A) (k : b = false → B) : cond b A B := by
  cases b with
  | true => exact a rfl
  | false => exact k rfl
end
section
variable {H : PH} {i j : Nat} {K : KV} {l : List PV} {v w : PV} {A B : KU} {o : Option PV} {a : Str} {r : Bool} {x y : Int} {s t : Str} {C : Addr} {fs : List (Str × PV)}
theorem e_opt (h : o = some v) (k : K v H) : optC o K H := by subst h; exact k
theorem e_testB (k : cond r (A H) (B H)) : testC (.bool r) A B H := k
theorem e_testT (k : A H) : testC (.bool true) A B H := k
theorem e_testF (k : B H) : testC (.bool false) A B H := k
theorem e_testYes {p : Prop} [Decidable p] (h : p) (k : A H) : testC (.bool (decide p)) A B H := c_T (decide_eq_true h) k
theorem e_testNo {p : Prop} [Decidable p] (h : ¬ p) (k : B H) : testC (.bool (decide p)) A B H := c_F (decide_eq_false h) k
theorem e_testN (k : B H) : testC .none A B H := k
theorem e_testI (k : cond (decide (x ≠ 0)) (A H) (B H)) : testC (.int x) A B H := k
theorem e_testS (n : s.length ≤ 1000) (k : cond (decide (s.length ≠ 0)) (A H) (B H)) : testC (.str s) A B H := ⟨n, k⟩
theorem e_tup (n : l.length ≤ 1000) (k : K (.tup l) H) : tupC l K H := ⟨n, k⟩
theorem e_alloc (n : l.length ≤ 1000) (k : K (.obj H.next) (H.push (.list l))) : allocC l K H := ⟨n, k⟩
theorem e_tp (n : Nat.ble l.length 1000 = true) (k : K (.tup l) H) : tupC l K H := ⟨Nat.le_of_ble_eq_true n, k⟩
theorem e_al (n : Nat.ble l.length 1000 = true) (k : K (.obj H.next) (H.push (.list l))) : allocC l K H := ⟨Nat.le_of_ble_eq_true n, k⟩
theorem e_add (k : K (.int (x + y)) H) : BinC .Add (.int x) (.int y) K H := .add x y rfl rfl rfl k
theorem e_sub (k : K (.int (x - y)) H) : BinC .Sub (.int x) (.int y) K H := .sub x y rfl rfl rfl k
theorem e_mul (sx : small x) (k : K (.int (x * y)) H) : BinC .Mult (.int x) (.int y) K H := .mul x y rfl rfl rfl sx k
theorem e_div (g : y ≠ 0 ∧ y.natAbs < 1073741824) (k : K (.int (x.fdiv y)) H) : BinC .FloorDiv (.int x) (.int y) K H := .div x y rfl rfl rfl g k
theorem e_mod (g : y ≠ 0) (k : K (.int (x.fmod y)) H) : BinC .Mod (.int x) (.int y) K H := .mod x y rfl rfl rfl g k
theorem e_pow (g : 0 ≤ y ∧ y ≤ 100) (sx : small x) (k : K (.int (x ^ y.toNat)) H) : BinC .Pow (.int x) (.int y) K H := .pow x y rfl rfl rfl g sx k
theorem e_addS (g : s.length + t.length ≤ 1000) (k : K (.str (s ++ t)) H) : BinC .Add (.str s) (.str t) K H := .addS s t rfl rfl rfl g k
theorem e_addL {m : List PV} (gi : At H i (.list l)) (gj : At H j (.list m)) (g : l.length + m.length ≤ 1000) (k : K (.obj H.next) (H.push (.list (l ++ m)))) : BinC .Add (.obj i) (.obj j) K H := .addL i j l m rfl rfl rfl gi.get gj.get g k
theorem e_mulL (gi : At H i (.list l)) (g : l.length ≤ 10 ∧ 0 ≤ y ∧ y ≤ 10) (k : K (.obj H.next) (H.push (.list (List.replicate y.toNat l).flatten))) : BinC .Mult (.obj i) (.int y) K H := .mulL i y l rfl rfl rfl gi.get g k
theorem e_neg (k : K (.int (-x)) H) : UnC .USub (.int x) K H := .neg x rfl rfl k
theorem e_not (k : K (.bool (!r)) H) : UnC .Not (.bool r) K H := .not rfl k
theorem e_cT {op : CmpOp} {v w : PV} (k : CmpC op v w (fun u H => testC u A B H) H) : CmpT op v w A B H := k
theorem e_eq (e : eqP H 40 v w = some r) (k : cond r (A H) (B H)) : CmpT .Eq v w A B H := .eq r rfl e k
theorem e_ne (n : noBytes v = true) (e : eqP H 40 v w = some r) (k : cond r (B H) (A H)) : CmpT .NotEq v w A B H := .ne r rfl n e (by cases r <;> exact k)
theorem e_isN (k : A H) : CmpT .Is .none .none A B H := .is_ rfl rfl rfl k
theorem e_isS (h : isSome v = true) (k : B H) : CmpT .Is v .none A B H := .isNo rfl rfl h k
theorem e_isntN (k : B H) : CmpT .IsNot .none .none A B H := .isnt rfl rfl rfl k
theorem e_isntS (h : isSome v = true) (k : A H) : CmpT .IsNot v .none A B H := .isntNo rfl rfl h k
theorem e_lt (k : cond (decide (x < y)) (A H) (B H)) : CmpT .Lt (.int x) (.int y) A B H := .lt x y rfl rfl rfl k
theorem e_le (k : cond (decide (x ≤ y)) (A H) (B H)) : CmpT .LtE (.int x) (.int y) A B H := .le x y rfl rfl rfl k
theorem e_gt (k : cond (decide (y < x)) (A H) (B H)) : CmpT .Gt (.int x) (.int y) A B H := .gt x y rfl rfl rfl k
theorem e_ge (k : cond (decide (y ≤ x)) (A H) (B H)) : CmpT .GtE (.int x) (.int y) A B H := .ge x y rfl rfl rfl k
theorem e_inT (g : l.length ≤ 1000) (e : anyIn H v l = some r) (k : cond r (A H) (B H)) : CmpT .In v (.tup l) A B H := .inT l r rfl rfl g e k
theorem e_inL (g : At H j (.list l)) (e : anyIn H v l = some r) (k : cond r (A H) (B H)) : CmpT .In v (.obj j) A B H := .inL j l r rfl rfl g.get e k
theorem e_inS (k : cond (Txt.contains t s) (A H) (B H)) : CmpT .In (.str s) (.str t) A B H := .inS s t rfl rfl rfl k
theorem e_ninT (g : l.length ≤ 1000) (e : anyIn H v l = some r) (k : cond r (B H) (A H)) : CmpT .NotIn v (.tup l) A B H := .ninT l r rfl rfl g e (by cases r <;> exact k)
theorem e_ninL (g : At H j (.list l)) (e : anyIn H v l = some r) (k : cond r (B H) (A H)) : CmpT .NotIn v (.obj j) A B H := .ninL j l r rfl rfl g.get e (by cases r <;> exact k)
theorem f_eq (e : eqP H 40 v w = some r) (k : K (.bool r) H) : CmpC .Eq v w K H := .eq r rfl e k
theorem f_leS (k : K (.bool (!(decide (t.cps.toList < s.cps.toList)))) H) : CmpC .LtE (.str s) (.str t) K H := .leS s t rfl rfl rfl k
theorem f_le (k : K (.bool (decide (x ≤ y))) H) : CmpC .LtE (.int x) (.int y) K H := .le x y rfl rfl rfl k
theorem f_lt (k : K (.bool (decide (x < y))) H) : CmpC .Lt (.int x) (.int y) K H := .lt x y rfl rfl rfl k
theorem f_isnN (k : K (.bool false) H) : CmpC .IsNot .none .none K H := .isnt rfl rfl rfl k
theorem f_isnS (h : isSome v = true) (k : K (.bool true) H) : CmpC .IsNot v .none K H := .isntNo rfl rfl h k
theorem e_attr (g : At H i (.inst C fs)) (ok : okAttr C a = true) (e : fs.lookup a = some v) (k : K v H) : AttrC (.obj i) a K H := .mk i C fs v rfl g.get ok e k
theorem e_setAttr {K : Unit → PH → Prop} (g : At H i (.inst C fs)) (ok : okSet C a fs = true) (nr : noRaw v = true) (k : K () (H.set i (.inst C (putF a v fs)))) : SetAttrC (.obj i) a v K H := .mk i C fs rfl g.get ok nr k
theorem e_subs {k : Nat} (g : At H j (.list l)) (b : k < 1000) (e : l[k]? = some v) (q : K v H) : SubsC (.obj j) (.int k) K H := .list j l k v rfl rfl ⟨Int.natCast_nonneg _, Int.ofNat_lt.mpr b⟩ g.get e q
theorem e_subsT {k : Nat} (n : l.length ≤ 1000) (b : k < 1000) (e : l[k]? = some v) (q : K v H) : SubsC (.tup l) (.int k) K H := .tup l k v rfl rfl ⟨Int.natCast_nonneg _, Int.ofNat_lt.mpr b⟩ n e q
theorem e_subsI {ns : List Int} {k : Nat} {z : Int} (b : k < 1000) (e : ns[k]? = some z) (q : K (.int z) H) : SubsC (.ints ns) (.int k) K H := .ints ns k z rfl rfl ⟨Int.natCast_nonneg _, Int.ofNat_lt.mpr b⟩ e q
theorem e_set {K : Unit → PH → Prop} (po : PO) (g : At H i (.inst C fs)) (ok : okSet C a fs = true) (nr : noRaw v = true) (e : PO.inst C (putF a v fs) = po) (k : K () (H.set i po)) : SetAttrC (.obj i) a v K H := .mk i C fs rfl g.get ok nr (e.symm ▸ k)
theorem e_subsL {k : Int} (m : Nat) (ek : k = m) (g : At H j (.list l)) (b : m < 1000) (e : l[m]? = some v) (q : K v H) : SubsC (.obj j) (.int k) K H := by subst ek; exact e_subs g b e q
theorem e_subsLT {k : Int} (m : Nat) (ek : k = m) (n : l.length ≤ 1000) (b : m < 1000) (e : l[m]? = some v) (q : K v H) : SubsC (.tup l) (.int k) K H := by subst ek; exact e_subsT n b e q
theorem e_slice {k : Nat} (g : At H j (.list l)) (b : k ≤ l.length ∧ l.length ≤ 999) (q : K (.obj H.next) (H.push (.list (l.take k)))) : SliceC (.obj j) (.int k) K H := .list j l k rfl rfl g.get b q
theorem e_sliceT {k : Nat} (b : k < l.length ∧ l.length ≤ 999) (q : K (.tup (l.take k)) H) : SliceC (.tup l) (.int k) K H := .tup l k rfl rfl b q
theorem e_setItem {K : Unit → PH → Prop} {k : Nat} (g : At H j (.list l)) (b : k < 1000) (n : k < l.length) (q : K () (H.set j (.list (l.set k v)))) : SetItemC (.obj j) (.int k) v K H := .mk j l k rfl rfl b g.get n q
theorem e_setItemL {K : Unit → PH → Prop} {k : Int} (m : Nat) (ek : k = m) (g : At H j (.list l)) (b : m < 1000) (n : m < l.length) (q : K () (H.set j (.list (l.set m v)))) : SetItemC (.obj j) (.int k) v K H := by subst ek; exact e_setItem g b n q
theorem e_itemsT {K : List PV → PH → Prop} (k : K l H) : ItemsC (.tup l) K H := .tup l rfl k
theorem e_itemsL {K : List PV → PH → Prop} (g : At H j (.list l)) (k : K l H) : ItemsC (.obj j) K H := .list j l rfl g.get k
theorem e_srcT {K : SL → PH → Prop} (n : l.length ≤ 1000) (k : K (.fixed l, l) H) : SrcC (.tup l) K H := .tup l rfl n k
theorem e_srcL {K : SL → PH → Prop} (g : At H j (.list l)) (n : l.length ≤ 1000) (k : K (.lst j l, l) H) : SrcC (.obj j) K H := .list j l rfl g.get n k
theorem e_srcR {K : SL → PH → Prop} {m : Nat} (n : m ≤ 1000) (k : K (.fixed (natsL m), natsL m) H) : SrcC (.rng m) K H := .rng m rfl n k
theorem e_srcS {K : SL → PH → Prop} (n : s.length ≤ 1000) (k : K (.fixed (charsL s), charsL s) H) : SrcC (.str s) K H := .str s rfl n k
theorem e_enum {K : SL → PH → Prop} (g : At H j (.list l)) (n : l.length ≤ 1000) (k : K (.lst j l, enumL 0 l) H) : EnumC (.obj j) K H := .mk j l rfl g.get n k
theorem e_meth {K : Callee → PH → Prop} {f : Addr} (g : At H i (.inst C fs)) (nf : fs.lookup a = none) (e : methOf C a = some f) (k : K (.fn f) H) : CalleeC (.obj i) a K H := .inst i C fs f rfl g.get nf e k
theorem e_calL {K : Callee → PH → Prop} (g : At H i (.list l)) (n : a = "append" ∨ a = "pop") (k : K (.lst i) H) : CalleeC (.obj i) a K H := .list i l rfl g.get n k
theorem e_calS {K : Callee → PH → Prop} (n : a = "lower" ∨ a = "upper" ∨ a = "strip" ∨ a = "join") (k : K (.str s) H) : CalleeC (.str s) a K H := .str s rfl n k
theorem e_apF {r : Lv} {f : Addr} (k : CallC r f (v :: l) K H) : applyC r v a l (.fn f) K H := k
theorem e_append {r : Lv} (g : At H i (.list l)) (n : l.length < 1000) (k : K .none (H.set i (.list (l ++ [w])))) : applyC r v "append" [w] (.lst i) K H := .append l w rfl rfl g.get n k
theorem e_pop {r : Lv} {m : Nat} (g : At H i (.list l)) (n : l.length ≤ 1000) (e : l[m]? = some w) (k : K w (H.set i (.list (l.eraseIdx m)))) : applyC r v "pop" [.int m] (.lst i) K H := .pop l m w rfl rfl g.get n e k
theorem e_lower {r : Lv} (g : asciiP s = true) (n : s.length ≤ 1000) (k : K (.str (lowP s)) H) : applyC r v "lower" [] (.str s) K H := .lower rfl rfl g n k
theorem e_upper {r : Lv} (g : asciiP s = true) (n : s.length ≤ 1000) (k : K (.str (uppP s)) H) : applyC r v "upper" [] (.str s) K H := .upper rfl rfl g n k
theorem e_strip {r : Lv} (n : s.length ≤ 1000) (k : K (.str (Txt.stripChars s t)) H) : applyC r v "strip" [.str t] (.str s) K H := .strip t rfl rfl n k
theorem e_join {r : Lv} {ss : List Str} (g : At H j (.list l)) (e : joinP l = some ss) (n : ss.length ≤ 1000) (b : ss.all (fun x => decide (x.length ≤ 100)) = true) (k : K (.str (Str.join "" ss)) H) : applyC r v "join" [.obj j] (.str "") K H := .join j l ss rfl rfl g.get e (by decide) n b k
theorem e_lenI {ns : List Int} (n : ns.length ≤ 1000) (k : K (.int ns.length) H) : BuiltC "len" [.ints ns] K H := .lenI ns rfl rfl n k
theorem e_len (g : At H j (.list l)) (n : l.length ≤ 1000) (k : K (.int l.length) H) : BuiltC "len" [.obj j] K H := .len j l rfl rfl g.get n k
theorem e_max (k : K (.int (if x < y then y else x)) H) : BuiltC "max" [.int x, .int y] K H := .max x y rfl rfl k
theorem e_min (k : K (.int (if y < x then y else x)) H) : BuiltC "min" [.int x, .int y] K H := .min x y rfl rfl k
theorem e_chr {x : Nat} (n : x < 128) (k : K (.str ⟨#[x]⟩) H) : BuiltC "chr" [.int x] K H := .chr x rfl rfl n k
theorem e_ord {c : Nat} (k : K (.int c) H) : BuiltC "ord" [.str ⟨#[c]⟩] K H := .ord c rfl rfl k
theorem e_any (g : At H j (.list [])) (k : K (.bool false) H) : BuiltC "any" [.obj j] K H := .any j rfl rfl g.get k
theorem e_repr (e : reprP v = some s) (k : K (.str s) H) : BuiltC "repr" [v] K H := .repr v s rfl rfl e k
theorem e_inst {as : List Addr} (g : At H j (.inst C fs)) (ec : clsAddrs v = some as) (e : isInst C as = some r) (k : K (.bool r) H) : BuiltC "isinstance" [.obj j, v] K H := .inst j v C fs as r rfl rfl g.get ec e k
theorem e_range {m : Nat} (n : m ≤ 1000) (k : K (.rng m) H) : TypeC "range" [.int m] K H := .range m rfl rfl n k
theorem e_listR {m : Nat} (n : m ≤ 1000) (k : K (.obj H.next) (H.push (.list (natsL m)))) : TypeC "list" [.rng m] K H := .listR m rfl rfl n k
theorem e_list (g : At H j (.list l)) (n : l.length ≤ 1000) (k : K (.obj H.next) (H.push (.list l))) : TypeC "list" [.obj j] K H := .list j l rfl rfl g.get n k
theorem e_int (k : K (.int (if r then 1 else 0)) H) : TypeC "int" [.bool r] K H := .int r rfl rfl k
theorem e_bool (k : truthC v (fun b H => K (.bool b) H) H) : TypeC "bool" [v] K H := .bool v rfl rfl k
theorem e_strT {m : Nat} (n : m ≤ 1000) (k : K (.str (Str.ofString (toString (m : Int)))) H) : TypeC "str" [.int m] K H := .str m rfl rfl n k
theorem e_none {K : Unit → PH → Prop} (k : K () H) : noneC .none K H := k
theorem e_unp2 {K : PV → PV → PH → Prop} (k : K v w H) : unp2 [v, w] K H := k
theorem e_unp3 {K : PV → PV → PV → PH → Prop} {u : PV} (k : K v w u H) : unp3 [v, w, u] K H := k
theorem e_unp4 {K : PV → PV → PV → PV → PH → Prop} {u z : PV} (k : K v w u z H) : unp4 [v, w, u, z] K H := k
end
section
variable {s : Src} {H : PH} {ℓ : Loc} {l : List PV}
theorem loopF_r {f : PV → Loc → CM Loc} {K : Loc → PH → Prop} (I : List PV → Loc → PH → Prop) (ck : ∀ r ℓ H, I r ℓ H → s.chk H)
    (st : ∀ v r ℓ H (k : KL), I (v :: r) ℓ H → (∀ ℓ' H', I r ℓ' H' → k ℓ' H') → f v ℓ k H) (fin : ∀ ℓ H, I [] ℓ H → K ℓ H) (h : I l ℓ H) : loopF s f l ℓ K H := by
  induction l generalizing ℓ H with
  | nil => exact ⟨ck _ _ _ h, fin _ _ h⟩
  | cons v r ih => exact ⟨ck _ _ _ h, st v r ℓ H _ h fun ℓ' H' h' => ih h'⟩
theorem loopC_aux {f : PV → Loc → CM (List PV × Loc)} (I : List PV → List PV → Loc → PH → Prop) (ck : ∀ r a ℓ H, I r a ℓ H → s.chk H)
    (st : ∀ v r a ℓ H (k : KC), I (v :: r) a ℓ H → (∀ y ℓ' H', I r (a ++ y) ℓ' H' → k (y, ℓ') H') → f v ℓ k H) : ∀ {l a ℓ H} {K : List PV → PH → Prop}, (∀ b ℓ H, I [] (a ++ b) ℓ H → K b H) → I l a ℓ H → loopC s f l ℓ K H
  | [], a, ℓ, H, K, fin, h => ⟨ck _ _ _ _ h, fin [] ℓ H (by rw [List.append_nil]; exact h)⟩
  | v :: r, a, ℓ, H, K, fin, h => ⟨ck _ _ _ _ h, st v r a ℓ H _ h fun y ℓ' H' h' => loopC_aux I ck st (a := a ++ y) (fun b ℓ2 H2 h2 => fin (y ++ b) ℓ2 H2 (by rw [← List.append_assoc]; exact h2)) h'⟩
theorem loopC_r {f : PV → Loc → CM (List PV × Loc)} {K : List PV → PH → Prop} (I : List PV → List PV → Loc → PH → Prop) (ck : ∀ r a ℓ H, I r a ℓ H → s.chk H)
    (st : ∀ v r a ℓ H (k : KC), I (v :: r) a ℓ H → (∀ y ℓ' H', I r (a ++ y) ℓ' H' → k (y, ℓ') H') → f v ℓ k H) (fin : ∀ b ℓ H, I [] b ℓ H → K b H) (h : I l [] ℓ H) : loopC s f l ℓ K H := loopC_aux (a := []) I ck st fin h
theorem drop_get {α : Type} {l : List α} {i : Nat} {v : α} {r : List α} (e : v :: r = l.drop i) : l[i]? = some v ∧ r = l.drop (i + 1) ∧ i < l.length := by
  have h1 : l[i]? = some v := by
    have := congrArg (fun l => l[0]?) e
    simpa using this.symm
  refine ⟨h1, ?_, (List.getElem?_eq_some_iff.mp h1).1⟩
  have := congrArg List.tail e
  simpa using this
theorem loopF_i {f : PV → Loc → CM Loc} {K : Loc → PH → Prop} (I : Nat → Loc → PH → Prop) (ck : ∀ i ℓ H, I i ℓ H → s.chk H)
    (st : ∀ i v ℓ H (k : KL), l[i]? = some v → I i ℓ H → (∀ ℓ' H', I (i + 1) ℓ' H' → k ℓ' H') → f v ℓ k H) (fin : ∀ ℓ H, I l.length ℓ H → K ℓ H) (h : I 0 ℓ H) : loopF s f l ℓ K H :=
  loopF_r (fun r ℓ H => ∃ i, r = l.drop i ∧ i ≤ l.length ∧ I i ℓ H) (fun _ _ _ ⟨_, _, _, h⟩ => ck _ _ _ h)
    (fun _ _ _ _ _ ⟨_, e, _, h⟩ hk => let ⟨a, b, c⟩ := drop_get e; st _ _ _ _ _ a h fun _ _ h' => hk _ _ ⟨_, b, c, h'⟩)
    (fun _ _ ⟨i, e, hi, h⟩ => fin _ _ ((Nat.le_antisymm hi (List.drop_eq_nil_iff.mp e.symm) : i = l.length) ▸ h)) ⟨0, rfl, Nat.zero_le _, h⟩
theorem loopC_i {f : PV → Loc → CM (List PV × Loc)} {K : List PV → PH → Prop} (I : Nat → List PV → Loc → PH → Prop) (ck : ∀ i a ℓ H, I i a ℓ H → s.chk H)
    (st : ∀ i v a ℓ H (k : KC), l[i]? = some v → I i a ℓ H → (∀ y ℓ' H', I (i + 1) (a ++ y) ℓ' H' → k (y, ℓ') H') → f v ℓ k H) (fin : ∀ b ℓ H, I l.length b ℓ H → K b H) (h : I 0 [] ℓ H) : loopC s f l ℓ K H :=
  loopC_r (fun r a ℓ H => ∃ i, r = l.drop i ∧ i ≤ l.length ∧ I i a ℓ H) (fun _ _ _ _ ⟨_, _, _, h⟩ => ck _ _ _ _ h)
    (fun _ _ _ _ _ _ ⟨_, e, _, h⟩ hk => let ⟨a, b, c⟩ := drop_get e; st _ _ _ _ _ _ a h fun _ _ _ h' => hk _ _ _ ⟨_, b, c, h'⟩)
    (fun _ _ _ ⟨i, e, hi, h⟩ => fin _ _ _ ((Nat.le_antisymm hi (List.drop_eq_nil_iff.mp e.symm) : i = l.length) ▸ h)) ⟨0, rfl, Nat.zero_le _, h⟩
theorem mapC_r {α : Type} {f : PV → Loc → CM (List PV × Loc)} {K : List PV → PH → Prop} {as : List α} {F : α → PV} (G : α → PV) (J : Loc → Prop) (j0 : J ℓ) (ck : s.chk H)
    (st : ∀ a, a ∈ as → ∀ ℓ, J ℓ → ∀ k : KC, (∀ ℓ', J ℓ' → k ([G a], ℓ') H) → f (F a) ℓ k H) (fin : K (as.map G) H) : loopC s f (as.map F) ℓ K H := by
  induction as generalizing ℓ K with
  | nil => exact ⟨ck, fin⟩
  | cons a r ih => exact ⟨ck, st a (.head _) ℓ j0 _ fun ℓ' j' => ih j' (fun b hb => st b (.tail _ hb)) fin⟩
end
end Mine
namespace Mine
open PySem
local macro_rules | `(tactic| trivial) => `(tactic| first | assumption | exact At.new | exact At.push (by trivial) | exact At.set (by trivial))
noncomputable def lowc (c : Nat) : Nat := if 65 ≤ c ∧ c ≤ 90 then c + 32 else c
noncomputable def foldP (s : Str) : Str := Str.join "" (s.cps.toList.map fun c => ⟨#[lowc c]⟩)
noncomputable def chV (c : Nat) : PV := .str ⟨#[c]⟩
noncomputable def loV (c : Nat) : PV := .str ⟨#[lowc c]⟩
noncomputable def foldL (s : Str) : List PV := s.cps.toList.map loV
theorem joinP_map (cs : List Nat) : joinP (cs.map loV) = some (cs.map fun c => ⟨#[lowc c]⟩) := by
  induction cs with
  | nil => rfl
  | cons c r ih => show (joinP (r.map loV)).map _ = _; rw [ih]; rfl
theorem le_lst (a b : Nat) : (!(decide ([a] < [b]))) = decide (b ≤ a) := by
  rw [← decide_not]
  exact decide_eq_decide.mpr (by simp [List.cons_lt_cons_iff])
theorem push_set {H : PH} {a b : PO} : (H.push a).set H.next b = H.push b := by
  unfold PH.push PH.set
  congr 1
  funext j
  by_cases h : j = H.next <;> simp [h]
section
variable {K : KV} {H : PH} {c n : Nat} {Q : KV}
theorem f_leA (k : K (.bool (decide (65 ≤ c))) H) : CmpC .LtE (.str "A") (chV c) K H := f_leS ((le_lst c 65).symm ▸ k : K (.bool (!(decide ([c] < [65])))) H)
theorem f_leZ (k : K (.bool (decide (c ≤ 90))) H) : CmpC .LtE (chV c) (.str "Z") K H := f_leS ((le_lst 90 c).symm ▸ k : K (.bool (!(decide ([90] < [c])))) H)
theorem fold_W {s : Str} (hs : s.length ≤ 1000) (hQ : Q (.str (foldP s)) (H.push (.list (foldL s)))) : CallC (lv (n + 14)) 617 [.str s] Q H := by
  refine fold_c (e_calS (.inr (.inr (.inr rfl))) (e_srcS hs (mapC_r (F := chV) loV (fun _ => True) True.intro True.intro (fun c hc ℓ _ k hk => ?_) ?_)))
  · have up : lowc c = c → fold0 k ℓ (chV c) (chV c) H := fun e => by
      have := hk (ℓ.upd "sign" (chV c)) True.intro
      rw [loV, e] at this; exact this
    refine f_leA (e_testB (c_if (fun h1 => f_leZ (e_testB (c_if (fun h2 => ?_) fun h2 => up (if_neg fun h => h2 h.2)))) fun h1 => e_testNo h1 (up (if_neg fun h => h1 h.1))))
    refine e_ord (e_add (e_chr (x := c + 32) (by omega) ?_))
    have := hk (ℓ.upd "sign" (chV c)) True.intro
    rw [loV, lowc, if_pos ⟨h1, h2⟩] at this; exact this
  · refine e_alloc (by rw [List.length_map]; exact hs) ?_
    exact e_join At.new (joinP_map _) (by rw [List.length_map]; exact hs) (by simp [Str.length]) hQ
theorem foa_W {s : Str} (hs : s.length < 1000) (hQ : Q (.str (foldP s)) (H.push (.list (foldL s)))) : CallC (lv (n + 14)) 657 [.str s] Q H := by
  refine foa_c (e_alloc (Nat.zero_le _) (e_srcS (Nat.le_of_lt hs) ?_))
  refine loopF_r (fun r ℓ H1 => ∃ cs ds, s.cps.toList = ds ++ cs ∧ r = cs.map chV ∧ ℓ "signs" = some (.obj H.next) ∧ H1 = H.push (.list (ds.map loV))) (fun _ _ _ _ => True.intro) ?_ ?_ ⟨s.cps.toList, [], rfl, rfl, rfl, rfl⟩
  · rintro v r ℓ _ k ⟨cs, ds, e, ei, el, rfl⟩ hk
    cases cs with
    | nil => cases ei
    | cons c cs =>
      injection ei with e1 e2
      subst e1
      have hl : (ds.map loV).length < 1000 := by
        have := congrArg List.length e
        simp at this
        have h2 : s.cps.size < 1000 := hs
        simp; omega
      have fin : ∀ w, w = loV c → k (ℓ.upd "sign" (chV c)) ((H.push (.list (ds.map loV))).set H.next (.list (ds.map loV ++ [w]))) := fun w hw => by
        refine hk _ _ ⟨cs, ds ++ [c], by simp [e], e2, el, ?_⟩
        rw [push_set, hw, List.map_append]; rfl
      have up : lowc c = c → optC (ℓ "signs") (foa4 n k (chV c) ℓ) (H.push (.list (ds.map loV))) := fun e => by
        refine e_opt el (e_calL At.new (.inl rfl) (e_append At.new hl (e_none (fin _ (by rw [loV, e]; rfl)))))
      refine f_leA (e_testB (c_if (fun h1 => f_leZ (e_testB (c_if (fun h2 => ?_) fun h2 => up (if_neg fun h => h2 h.2)))) fun h1 => e_testNo h1 (up (if_neg fun h => h1 h.1))))
      refine e_opt el (e_calL At.new (.inl rfl) (e_ord (e_add (e_chr (x := c + 32) (by omega) (e_append At.new hl (e_none (fin _ ?_)))))))
      rw [loV, lowc, if_pos ⟨h1, h2⟩]
  · rintro ℓ _ ⟨cs, ds, e, ei, el, rfl⟩
    have hcs : cs = [] := by cases cs with
      | nil => rfl
      | cons c r => cases ei
    subst hcs
    rw [List.append_nil] at e
    refine e_calS (.inr (.inr (.inr rfl))) (e_opt el (e_join At.new (joinP_map _) (by rw [List.length_map, ← e]; exact Nat.le_of_lt hs) (by simp [Str.length]) ?_))
    rw [← e]; exact hQ
noncomputable def affP (s : Str) : Str := bif Txt.contains (foldP s) "int" then "integer" else bif Txt.contains (foldP s) "char" then "text" else bif Txt.contains (foldP s) "clob" then "text" else bif Txt.contains (foldP s) "text" then "text" else bif Txt.contains (foldP s) "blob" then "blob" else "numeric"
theorem c_q {b : Bool} {F : Str → Prop} {x y : Str} {A B : Prop} (h : F (bif b then x else y)) (a : F x → A) (k : F y → B) : cond b A B := by
  cases b with
  | true => exact a h
  | false => exact k h
theorem aff_S {s : Str} (hs : s.length < 1000) (hn : eqP H 40 (.str (Txt.stripChars s " \t\n\x0b\x0c\x0d")) (.str "") = some false) (hQ : ∀ H', Ge H H' → Q (.str (affP s)) H') : CallC (lv (n + 22)) 664 [.str s] Q H := by
  refine aff_c (e_isS rfl (e_calS (.inr (.inr (.inl rfl))) (e_strip (Nat.le_of_lt hs) (e_eq hn (foa_W hs (e_inS ?_))))))
  refine c_q (F := fun r => Q (.str r) _) (hQ _ .push) id fun h => e_tup (by decide) (e_srcT (by decide) ⟨True.intro, e_opt rfl (e_inS ?_)⟩)
  refine c_q (F := fun r => Q (.str r) _) h id fun h => ⟨True.intro, e_opt rfl (e_inS ?_)⟩
  refine c_q (F := fun r => Q (.str r) _) h id fun h => ⟨True.intro, e_opt rfl (e_inS ?_)⟩
  refine c_q (F := fun r => Q (.str r) _) h id fun h => ⟨True.intro, e_opt rfl (e_inS ?_)⟩
  exact c_q (F := fun r => Q (.str r) _) h id id
noncomputable def tyS : List (Str × Str) := [("INTEGER", "integer"), ("integer", "integer"), ("BIGINT", "integer"), ("TEXT", "text"), ("VarChar(5)", "text"), ("BLOB", "blob"), ("NUMERIC", "numeric"), ("STRING", "numeric")]
noncomputable def tys : List (PV × Str) := tyS.map (fun p => (PV.str p.1, p.2)) ++ [(PV.none, ("blob" : Str))]
noncomputable def tyOk (s : Str) : Bool := decide (s.length < 1000) && ((Txt.stripChars s " \t\n\x0b\x0c\x0d" == "") == false)
theorem tyS_ok : tyS.all (fun p => tyOk p.1 && affP p.1 == p.2) = true := by kernel_rfl
theorem aff_W {p : PV × Str} (hp : p ∈ tys) (hQ : ∀ H', Ge H H' → Q (.str p.2) H') : CallC (lv (n + 22)) 664 [p.1] Q H := by
  rcases List.mem_append.mp hp with hp | hp
  · obtain ⟨q, hq, rfl⟩ := List.mem_map.mp hp
    have h := List.all_eq_true.mp tyS_ok q hq
    rw [tyOk, Bool.and_eq_true, Bool.and_eq_true] at h
    refine aff_S (of_decide_eq_true h.1.1) ?_ (eq_of_beq h.2 ▸ hQ)
    show some (_ == _) = _
    rw [eq_of_beq h.1.2]
  · cases List.mem_singleton.mp hp
    exact aff_c (e_isN (hQ _ .refl))
end
end Mine
namespace Mine
open PySem
local macro_rules | `(tactic| trivial) => `(tactic| first | assumption | exact At.new | exact At.push (by trivial) | exact At.set (by trivial))
noncomputable def mkK (Q : KV) (i : Nat) : KV := fun v H' => noneC v (fun _ H'' => Q (.obj i) H'') H'
section
variable {H : PH} {Q : KV} {n : Nat} {vs : List PV} {C : Addr}
theorem mk_144 (h : CallC (lv (n + 1)) 134 (.obj H.next :: vs) (mkK Q H.next) (H.push (.inst 144 []))) : CallC (lv (n + 1)) 144 vs Q H := let ⟨h⟩ := h; ⟨Eq.mpr (by kernel_rfl) h⟩
theorem mk_532 (h : CallC (lv (n + 1)) 522 (.obj H.next :: vs) (mkK Q H.next) (H.push (.inst 532 []))) : CallC (lv (n + 1)) 532 vs Q H := let ⟨h⟩ := h; ⟨Eq.mpr (by kernel_rfl) h⟩
theorem mk_558 (h : CallC (lv (n + 1)) 548 (.obj H.next :: vs) (mkK Q H.next) (H.push (.inst 558 []))) : CallC (lv (n + 1)) 558 vs Q H := let ⟨h⟩ := h; ⟨Eq.mpr (by kernel_rfl) h⟩
theorem mk_584 (h : CallC (lv (n + 1)) 574 (.obj H.next :: vs) (mkK Q H.next) (H.push (.inst 584 []))) : CallC (lv (n + 1)) 584 vs Q H := let ⟨h⟩ := h; ⟨Eq.mpr (by kernel_rfl) h⟩
theorem mk_610 (h : CallC (lv (n + 1)) 600 (.obj H.next :: vs) (mkK Q H.next) (H.push (.inst 610 []))) : CallC (lv (n + 1)) 610 vs Q H := let ⟨h⟩ := h; ⟨Eq.mpr (by kernel_rfl) h⟩
theorem mk_684 (h : CallC (lv (n + 1)) 681 (.obj H.next :: vs) (mkK Q H.next) (H.push (.inst 684 []))) : CallC (lv (n + 1)) 684 vs Q H := let ⟨h⟩ := h; ⟨Eq.mpr (by kernel_rfl) h⟩
theorem mk_717 (h : CallC (lv (n + 1)) 702 (.obj H.next :: vs) (mkK Q H.next) (H.push (.inst 717 []))) : CallC (lv (n + 1)) 717 vs Q H := let ⟨h⟩ := h; ⟨Eq.mpr (by kernel_rfl) h⟩
theorem mk_757 (h : CallC (lv (n + 1)) 735 (.obj H.next :: vs) (mkK Q H.next) (H.push (.inst 757 []))) : CallC (lv (n + 1)) 757 vs Q H := let ⟨h⟩ := h; ⟨Eq.mpr (by kernel_rfl) h⟩
theorem mk_882 (h : CallC (lv (n + 1)) 810 (.obj H.next :: vs) (mkK Q H.next) (H.push (.inst 882 []))) : CallC (lv (n + 1)) 882 vs Q H := let ⟨h⟩ := h; ⟨Eq.mpr (by kernel_rfl) h⟩
theorem e_setN {a : Str} {v : PV} {fs : List (Str × PV)} {K : Unit → PH → Prop} (ok : okSet C a fs = true) (nr : noRaw v = true) (k : K () (H.push (.inst C (putF a v fs)))) : SetAttrC (.obj H.next) a v K (H.push (.inst C fs)) :=
  e_setAttr At.new ok nr (push_set.symm ▸ k)
theorem mk_Index {a b c d e f g : PV} (r : (noRaw a && noRaw b && noRaw c && noRaw d && noRaw e && noRaw f && noRaw g) = true) (h : Q (.obj H.next) (H.push (.inst 717 [("name", a), ("table", b), ("root", c), ("columns", d), ("unique", e), ("origin", f), ("sql", g)]))) : CallC (lv (n + 6)) 717 [a, b, c, d, e, f, g] Q H := by
  simp only [Bool.and_eq_true] at r
  obtain ⟨⟨⟨⟨⟨⟨ra, rb⟩, rc⟩, rd⟩, re⟩, rf⟩, rg⟩ := r
  exact mk_717 (iInd_c (e_setN (by kernel_rfl) ra (e_setN (by kernel_rfl) rb (e_setN (by kernel_rfl) rc (e_setN (by kernel_rfl) rd (e_setN (by kernel_rfl) re (e_setN (by kernel_rfl) rf (e_setN (by kernel_rfl) rg (e_none (Eq.mp (by kernel_rfl) h))))))))))
theorem mk_Literal {a : PV} (r : noRaw a = true) (h : Q (.obj H.next) (H.push (.inst 144 [("value", a)]))) : CallC (lv (n + 6)) 144 [a] Q H := mk_144 (iLit_c (e_setN (by kernel_rfl) r (e_none h)))
theorem mk_ColumnDef {a b c : PV} (ra : noRaw a = true) (rb : noRaw b = true) (rc : noRaw c = true) (h : Q (.obj H.next) (H.push (.inst 532 [("name", a), ("type_name", b), ("constraints", c)]))) : CallC (lv (n + 6)) 532 [a, b, c] Q H :=
  mk_532 (iCde_c (e_setN (by kernel_rfl) ra (e_setN (by kernel_rfl) rb (e_setN (by kernel_rfl) rc (e_none (Eq.mp (by kernel_rfl) h))))))
theorem mk_IndexedColumn {a b c : PV} (ra : noRaw a = true) (rb : noRaw b = true) (rc : noRaw c = true) (h : Q (.obj H.next) (H.push (.inst 558 [("name", a), ("collation", b), ("descending", c)]))) : CallC (lv (n + 6)) 558 [a, b, c] Q H :=
  mk_558 (iIxc_c (e_setN (by kernel_rfl) ra (e_setN (by kernel_rfl) rb (e_setN (by kernel_rfl) rc (e_none (Eq.mp (by kernel_rfl) h))))))
theorem mk_TableConstraint {a b c : PV} (ra : noRaw a = true) (rb : noRaw b = true) (rc : noRaw c = true) (h : Q (.obj H.next) (H.push (.inst 584 [("kind", a), ("columns", b), ("check", c)]))) : CallC (lv (n + 6)) 584 [a, b, c] Q H :=
  mk_584 (iTco_c (e_setN (by kernel_rfl) ra (e_setN (by kernel_rfl) rb (e_setN (by kernel_rfl) rc (e_none (Eq.mp (by kernel_rfl) h))))))
theorem mk_CreateTable {a b c d e : PV} (ra : noRaw a = true) (rb : noRaw b = true) (rc : noRaw c = true) (rd : noRaw d = true) (re : noRaw e = true) (h : Q (.obj H.next) (H.push (.inst 610 [("name", a), ("columns", b), ("constraints", c), ("if_missing", d), ("text", e)]))) : CallC (lv (n + 6)) 610 [a, b, c, d, e] Q H :=
  mk_610 (iCta_c (e_setN (by kernel_rfl) ra (e_setN (by kernel_rfl) rb (e_setN (by kernel_rfl) rc (e_setN (by kernel_rfl) rd (e_setN (by kernel_rfl) re (e_none (Eq.mp (by kernel_rfl) h))))))))
theorem push_set_ne {G : PH} {i : Nat} {o b : PO} (h : i ≠ G.next) : (G.push o).set i b = (G.set i b).push o := by
  unfold PH.push PH.set
  congr 1
  funext j
  by_cases h1 : j = i
  · subst h1; simp [h]
  · simp [h1]
theorem ps1 {a b l : PO} : ((H.push a).push l).set H.next b = (H.push b).push l := (push_set_ne (G := H.push a) (Nat.ne_of_lt (Nat.lt_succ_self _))).trans (congrArg (PH.push · l) push_set)
theorem ps2 {a b l m : PO} : (((H.push a).push l).push m).set H.next b = ((H.push b).push l).push m := (push_set_ne (G := (H.push a).push l) (Nat.ne_of_lt (Nat.lt_succ_of_lt (Nat.lt_succ_self _)))).trans (congrArg (PH.push · m) ps1)
theorem ps3 {a b l m o : PO} : ((((H.push a).push l).push m).push o).set H.next b = (((H.push b).push l).push m).push o := (push_set_ne (G := ((H.push a).push l).push m) (Nat.ne_of_lt (Nat.lt_succ_of_lt (Nat.lt_succ_of_lt (Nat.lt_succ_self _))))).trans (congrArg (PH.push · o) ps2)
theorem mk_Table {a b c d : PV} (ra : noRaw a = true) (rb : noRaw b = true) (rc : noRaw c = true) (rd : noRaw d = true) (h : Q (.obj H.next) ((((H.push (.inst 757 [("name", a), ("root", b), ("columns", c), ("rowid_place", .none), ("indexes", .obj (H.next + 1)), ("checks", .obj (H.next + 2)), ("sql", d), ("primary", .obj (H.next + 3))])).push (.list [])).push (.list [])).push (.list []))) : CallC (lv (n + 8)) 757 [a, b, c, d] Q H := by
  refine mk_757 (iTab_c (e_setN (by kernel_rfl) ra (e_setN (by kernel_rfl) rb (e_setN (by kernel_rfl) rc (e_setN (by kernel_rfl) rfl (e_alloc (Nat.zero_le _) ?_))))))
  refine e_setAttr (.push .new) (by kernel_rfl) rfl (ps1.symm ▸ e_alloc (Nat.zero_le _) (e_setAttr (.push (.push .new)) (by kernel_rfl) rfl (ps2.symm ▸ ?_)))
  refine e_setAttr (.push (.push .new)) (by kernel_rfl) rd (ps2.symm ▸ e_alloc (Nat.zero_le _) (e_setAttr (.push (.push (.push .new))) (by kernel_rfl) rfl (ps3.symm ▸ e_none ?_)))
  exact Eq.mp (by kernel_rfl) h
end
end Mine
namespace Mine
open PySem
local macro_rules | `(tactic| trivial) => `(tactic| first | assumption | exact At.new | exact At.push (by trivial) | exact At.set (by trivial))
theorem natsL_len {n : Nat} : (natsL n).length = n := by rw [natsL, List.length_map, List.length_range]
theorem natsL_get {n i : Nat} {v : PV} (h : (natsL n)[i]? = some v) : i < n ∧ v = .int i := by
  rw [natsL, List.getElem?_map, Option.map_eq_some_iff] at h
  obtain ⟨a, ha, rfl⟩ := h
  obtain ⟨h1, h2⟩ := List.getElem?_eq_some_iff.mp ha
  rw [List.length_range] at h1
  rw [List.getElem_range] at h2
  exact ⟨h1, by rw [h2]⟩
structure CS where
  ix : Nat
  nm : Str
  ty : PV
  af : Str
  co : Str
  nn : Bool
  dv : PV
  dx : Option PV
noncomputable def CS.po (c : CS) : PO := .inst 684 [("name", .str c.nm), ("type_name", c.ty), ("affinity", .str c.af), ("collation", .str c.co), ("not_null", .bool c.nn), ("default", c.dv)]
noncomputable def ColsAt (H : PH) (cs : List CS) : Prop := ∀ c ∈ cs, At H c.ix c.po
theorem ColsAt.mono {H H' : PH} {cs : List CS} (h : ColsAt H cs) (g : Ge H H') : ColsAt H' cs := fun c hc => (h c hc).ge g
theorem tys_raw {p : PV × Str} (hp : p ∈ tys) : noRaw p.1 = true := by
  rcases List.mem_append.mp hp with hp | hp
  · obtain ⟨q, _, rfl⟩ := List.mem_map.mp hp; rfl
  · cases List.mem_singleton.mp hp; rfl
section
variable {Q : KV} {H : PH} {n : Nat}
theorem mk_Column {nm : Str} {p : PV × Str} (hp : p ∈ tys) (hQ : ∀ H', Ge H H' → At H' H.next (CS.po ⟨H.next, nm, p.1, p.2, "binary", false, .none, none⟩) → Q (.obj H.next) H') : CallC (lv (n + 28)) 684 [.str nm, p.1] Q H := by
  refine mk_684 (iCol_c (e_setN (by kernel_rfl) rfl (e_setN (by kernel_rfl) (tys_raw hp) (aff_W hp fun H' g => ?_))))
  have a := At.new.ge g
  refine e_setAttr a (by kernel_rfl) rfl (e_setAttr (.set a) (by kernel_rfl) rfl (e_setAttr (.set (.set a)) (by kernel_rfl) rfl (e_setAttr (.set (.set (.set a))) (by kernel_rfl) rfl (e_none ?_))))
  have le := Nat.le_refl H.next
  exact hQ _ (((((Ge.push.trans g).set le).set le).set le).set le) (At.setE (.set (.set (.set a))) (by kernel_rfl))
noncomputable def placeAt (names : List Str) (s : Str) : Option Nat := names.findIdx? fun x => foldP x == s
noncomputable def isRowid (s : Str) : Bool := ("rowid" : Str) == s || (("oid" : Str) == s || (("_rowid_" : Str) == s || false))
noncomputable def placeP (names : List Str) (s : Str) : PV := match placeAt names (foldP s) with
  | some i => .int i
  | none => bif isRowid (foldP s) then .int (-1) else .none
theorem plo_W {t cl : Nat} {fs : List (Str × PV)} {cs : List CS} {s : Str} (ht : At H t (.inst 757 fs)) (hf : fs.lookup (Str.ofString "columns") = some (PV.obj cl)) (hcl : At H cl (.list (cs.map fun c => .obj c.ix)))
    (hcs : ColsAt H cs) (hlen : cs.length ≤ 100) (hs : s.length ≤ 1000) (hnm : ∀ c ∈ cs, c.nm.length ≤ 1000)
    (hQ : ∀ H', Ge H H' → Q (placeP (cs.map (·.nm)) s) H') : CallC (lv (n + 24)) 742 [.obj t, .str s] Q H := by
  have len : (cs.map fun c => PV.obj c.ix).length ≤ 1000 := by rw [List.length_map]; omega
  refine plo_c (fold_W hs (e_attr ht.push (by kernel_rfl) hf (e_len hcl.push len (e_range len (e_srcR len ?_)))))
  refine loopF_i (fun i ℓ H1 => ℓ "self" = some (.obj t) ∧ ℓ "wanted" = some (.str (foldP s)) ∧ Ge H H1 ∧ ∀ j, j < i → ∀ c, cs[j]? = some c → ¬ foldP c.nm = foldP s) (fun _ _ _ _ => True.intro) ?_ ?_ ⟨rfl, rfl, .push, fun j h => absurd h (Nat.not_lt_zero j)⟩
  · rintro i v ℓ H1 k hv ⟨h1, h2, g, hno⟩ hk
    obtain ⟨hi, rfl⟩ := natsL_get hv
    rw [List.length_map] at hi
    have hc : cs[i]? = some cs[i] := List.getElem?_eq_getElem hi
    have hm : cs[i] ∈ cs := List.getElem_mem hi
    refine e_opt h1 (e_attr (ht.ge g) (by kernel_rfl) hf (e_subs (hcl.ge g) (by omega) (by rw [List.getElem?_map, hc]; rfl) (e_attr ((hcs _ hm).ge g) (by kernel_rfl) rfl (fold_W (hnm _ hm) (e_opt h2 (e_eq rfl (c_eq (fun hq => ?_) fun hq => ?_)))))))
    · have e : placeP (cs.map (·.nm)) s = .int i := by
        unfold placeP placeAt
        have : (cs.map (·.nm)).findIdx? (fun x => foldP x == foldP s) = some i := by
          rw [List.findIdx?_eq_some_iff_getElem]
          refine ⟨by simpa using hi, by simpa using hq, fun j hj => ?_⟩
          simpa using hno j hj cs[j] (List.getElem?_eq_getElem (by omega))
        rw [this]
      exact e ▸ hQ _ g.push'
    · refine hk _ _ ⟨h1, h2, g.push', fun j hj c hc' => ?_⟩
      rcases Nat.lt_or_ge j i with h | h
      · exact hno j h c hc'
      · cases (Nat.le_antisymm h (Nat.le_of_lt_succ hj) : i = j)
        rw [hc] at hc'
        cases hc'
        exact hq
  · rintro ℓ H1 ⟨h1, h2, g, hno⟩
    rw [natsL_len, List.length_map] at hno
    have e : placeAt (cs.map (·.nm)) (foldP s) = none := by
      unfold placeAt
      rw [List.findIdx?_eq_none_iff]
      intro x hx
      obtain ⟨c, hc, rfl⟩ := List.mem_map.mp hx
      obtain ⟨j, hj, rfl⟩ := List.mem_iff_getElem.mp hc
      simpa using hno j hj _ (List.getElem?_eq_getElem hj)
    have hq := hQ _ g
    unfold placeP at hq
    rw [e] at hq
    refine e_opt h2 (e_inT (by decide) (r := isRowid (foldP s)) rfl ?_)
    cases hr : isRowid (foldP s) with
    | true => rw [hr] at hq; exact e_neg hq
    | false => rw [hr] at hq; exact hq
variable {e : Nat} {v : PV}
theorem notLit {c : PV} {as : List Addr} {A B : KU} (he : At H e (.inst 144 [("value", v)])) (ec : clsAddrs c = some as) (ei : isInst 144 as = some false) (k : B H) : BuiltC "isinstance" [.obj e, c] (testK A B) H := e_inst he ec ei (e_testF k)
theorem chi_W (he : At H e (.inst 144 [("value", v)])) (h : Q (.obj H.next) (H.push (.list []))) : CallC (lv (n + 12)) 624 [.obj e] Q H := by
  refine chi_c (notLit he rfl (by kernel_rfl) (notLit he rfl (by kernel_rfl) (notLit he rfl (by kernel_rfl) (notLit he rfl (by kernel_rfl) (notLit he rfl (by kernel_rfl) (notLit he rfl (by kernel_rfl) (notLit he rfl (by kernel_rfl) ?_)))))))
  exact e_tup (by decide) (notLit he rfl (by kernel_rfl) (e_alloc (Nat.zero_le _) h))
theorem nam_W (he : At H e (.inst 144 [("value", v)])) (hQ : ∀ H' i, Ge H H' → At H' i (.list []) → Q (.obj i) H') : CallC (lv (n + 20)) 650 [.obj e] Q H :=
  nam_c (notLit he rfl (by kernel_rfl) (e_alloc (Nat.zero_le _) (chi_W he.push (e_srcL .new (Nat.zero_le _) ⟨At.new.get, e_opt rfl (hQ _ _ (.push' .push) (.push .new))⟩))))
theorem iagg_W (he : At H e (.inst 144 [("value", v)])) (h : Q (.bool false) H) : CallC (lv (n + 12)) 631 [.obj e] Q H := iagg_c (e_inst he rfl (by kernel_rfl) (e_testF h))
theorem agg_W (he : At H e (.inst 144 [("value", v)])) (hQ : ∀ H' i, Ge H H' → At H' i (.list []) → Q (.obj i) H') : CallC (lv (n + 20)) 638 [.obj e] Q H :=
  agg_c (e_isS rfl (iagg_W he (e_testF (e_alloc (Nat.zero_le _) (chi_W he.push (e_srcL .new (Nat.zero_le _) ⟨At.new.get, e_opt rfl (hQ _ _ (.push' .push) (.push .new))⟩))))))
theorem subq_W (he : At H e (.inst 144 [("value", v)])) (hQ : ∀ H', Ge H H' → Q (.bool false) H') : CallC (lv (n + 20)) 643 [.obj e] Q H :=
  subq_c (e_tup (by decide) (notLit he rfl (by kernel_rfl) (chi_W he (e_srcL .new (Nat.zero_le _) ⟨At.new.get, e_alloc (Nat.zero_le _) (e_any .new (hQ _ (.push' .push)))⟩))))
theorem eqNil {i j : Nat} (hij : i ≠ j) (hi : At H i (.list [])) (hj : At H j (.list [])) : eqP H 40 (.obj i) (.obj j) = some true := by
  unfold eqP
  dsimp only
  rw [if_neg hij, hi.get, hj.get]
  rfl
theorem cde_W {col : PV} (he : At H e (.inst 144 [("value", v)])) (hQ : ∀ H', Ge H H' → Q .none H') : CallC (lv (n + 30)) 775 [.obj e, col] Q H := by
  refine cde_c (nam_W he fun H1 i g1 hi => e_alloc (Nat.zero_le _) (e_ne rfl (eqNil (Nat.ne_of_lt hi.lt) hi.push .new) ?_))
  refine agg_W (he.ge g1).push fun H2 i2 g2 hi2 => e_alloc (Nat.zero_le _) (e_ne rfl (eqNil (Nat.ne_of_lt hi2.lt) hi2.push .new) ?_)
  exact subq_W ((he.ge g1).push.ge g2).push fun H3 g3 => e_testF (hQ _ ((g1.push'.trans g2).push'.trans g3))
noncomputable def collOk (s : Str) : Bool := ("binary" : Str) == s || (("nocase" : Str) == s || (("rtrim" : Str) == s || false))
theorem cco_W {s : Str} (hs : s.length ≤ 1000) (hc : collOk (foldP s) = true) (hQ : ∀ H', Ge H H' → Q (.str (foldP s)) H') : CallC (lv (n + 24)) 768 [.str s] Q H :=
  cco_c (fold_W hs (e_ninT (by decide) (r := collOk (foldP s)) rfl (hc.symm ▸ fold_W hs (hQ _ (.push' .push)))))
noncomputable def isIntP : PV → Bool
  | .str s => foldP s == "integer"
  | _ => false
theorem iit_W {c : CS} (hc : At H c.ix c.po) (ht : ∃ a, (c.ty, a) ∈ tys) (hQ : ∀ H', Ge H H' → Q (.bool (isIntP c.ty)) H') : CallC (lv (n + 22)) 796 [.obj c.ix] Q H := by
  refine iit_c (e_attr hc (by kernel_rfl) rfl ?_)
  obtain ⟨a, ha⟩ := ht
  rcases List.mem_append.mp ha with hp | hp
  · obtain ⟨q, hq, e⟩ := List.mem_map.mp hp
    have h := List.all_eq_true.mp tyS_ok q hq
    rw [tyOk, Bool.and_eq_true, Bool.and_eq_true] at h
    have e : PV.str q.1 = c.ty := congrArg Prod.fst e
    have hQ : ∀ H', Ge H H' → Q (.bool (isIntP (.str q.1))) H' := e ▸ hQ
    have h2 : AttrC (.obj c.ix) "type_name" (iit0 n Q) H := e_attr hc (by kernel_rfl) rfl (e ▸ fold_W (Nat.le_of_lt (of_decide_eq_true h.1.1)) (f_eq rfl (hQ _ .push)))
    rw [← e]
    exact f_isnS rfl (e_testT h2)
  · have e : c.ty = .none := congrArg Prod.fst (List.mem_singleton.mp hp)
    rw [e] at hQ ⊢
    exact f_isnN (e_testF (hQ _ .refl))
end
end Mine
namespace Mine
open PySem
structure Sep (H0 : PH) (ps : List (Nat × PO)) (H : PH) : Prop where
  ge : Ge H0 H
  nd : ps.Pairwise fun a b => a.1 ≠ b.1
  all : ∀ p ∈ ps, H0.next ≤ p.1 ∧ At H p.1 p.2
namespace Sep
variable {H0 H H' : PH} {ps qs A B C : List (Nat × PO)} {i j k : Nat} {o o' p : PO}
theorem at_ (s : Sep H0 ps H) (h : (i, o) ∈ ps) : At H i o := (s.all _ h).2
theorem nil (g : Ge H0 H) : Sep H0 [] H := ⟨g, List.Pairwise.nil, fun _ h => nomatch h⟩
theorem mono (s : Sep H0 ps H) (g : Ge H H') : Sep H0 ps H' := ⟨s.ge.trans g, s.nd, fun p hp => ⟨(s.all p hp).1, (s.all p hp).2.ge g⟩⟩
theorem new (s : Sep H0 ps H) (g : Ge H H') (h1 : H.next ≤ i) (a : At H' i o) : Sep H0 (ps ++ [(i, o)]) H' := by
  refine ⟨s.ge.trans g, List.pairwise_append.mpr ⟨s.nd, List.pairwise_singleton _ _, fun a ha b hb => ?_⟩, fun p hp => ?_⟩
  · rw [List.mem_singleton.mp hb]
    exact Nat.ne_of_lt (Nat.lt_of_lt_of_le (s.all a ha).2.lt h1)
  · rcases List.mem_append.mp hp with hp | hp
    · exact (s.mono g).all p hp
    · rw [List.mem_singleton.mp hp]
      exact ⟨Nat.le_trans s.ge.le h1, a⟩
theorem push (s : Sep H0 ps H) : Sep H0 (ps ++ [(H.next, o)]) (H.push o) := s.new .push (Nat.le_refl _) .new
theorem set (s : Sep H0 (A ++ (i, o) :: B) H) (o' : PO) : Sep H0 (A ++ (i, o') :: B) (H.set i o') := by
  have hi := s.all (i, o) (List.mem_append_right _ (.head _))
  obtain ⟨n1, n2, n3⟩ := List.pairwise_append.mp s.nd
  obtain ⟨n4, n5⟩ := List.pairwise_cons.mp n2
  have n3' : ∀ a ∈ A, a.1 ≠ i := fun a ha => n3 a ha (i, o) (.head _)
  refine ⟨s.ge.set hi.1, List.pairwise_append.mpr ⟨n1, List.pairwise_cons.mpr ⟨n4, n5⟩, fun a ha b hb => ?_⟩, fun p hp => ?_⟩
  · rcases List.mem_cons.mp hb with rfl | hb
    · exact n3' a ha
    · exact n3 a ha b (.tail _ hb)
  · rcases List.mem_append.mp hp with hp | hp
    · have := s.all p (List.mem_append_left _ hp)
      exact ⟨this.1, this.2.setne (n3' p hp)⟩
    · rcases List.mem_cons.mp hp with rfl | hp
      · exact ⟨hi.1, hi.2.set⟩
      · have := s.all p (List.mem_append_right _ (.tail _ hp))
        exact ⟨this.1, this.2.setne (n4 p hp).symm⟩
theorem perm (s : Sep H0 ps H) (e : ps.Perm qs) : Sep H0 qs H := ⟨s.ge, (e.pairwise_iff (fun h => Ne.symm h)).mp s.nd, fun p hp => s.all p (e.mem_iff.mpr hp)⟩
theorem sub (s : Sep H0 ps H) (e : qs.Sublist ps) : Sep H0 qs H := ⟨s.ge, s.nd.sublist e, fun p hp => s.all p (e.subset hp)⟩
theorem ne (s : Sep H0 (A ++ (i, o) :: B ++ (j, p) :: C) H) : i ≠ j :=
  (List.pairwise_append.mp s.nd).2.2 (i, o) (List.mem_append_right _ (.head _)) (j, p) (.head _)
theorem swap (s : Sep H0 (A ++ (i, o) :: B ++ [(j, p)]) H) : Sep H0 (A ++ (j, p) :: B) H := by
  have h : (A ++ (i, o) :: B ++ [(j, p)]).Perm ((i, o) :: (A ++ (j, p) :: B)) := by
    rw [List.append_assoc]
    refine List.perm_middle.trans (List.Perm.cons _ (List.Perm.append_left A (List.perm_append_comm (l₁ := B) (l₂ := [(j, p)]))))
  exact (s.perm h).sub (List.sublist_cons_self _ _)
theorem front (s : Sep H0 (A ++ [(j, p)]) H) : Sep H0 ((j, p) :: A) H := s.perm (List.perm_append_comm (l₁ := A) (l₂ := [(j, p)]))
end Sep
noncomputable def optS : Option Str → PV
  | none => .none
  | some s => .str s
noncomputable def optI : Option Nat → PV
  | none => .none
  | some i => .int i
theorem raw_optS {o} : noRaw (optS o) = true := by cases o <;> rfl
theorem raw_optI {o} : noRaw (optI o) = true := by cases o <;> rfl
structure Row where
  pl : Nat
  co : Option Str
  de : Bool
  deriving DecidableEq
noncomputable def Row.pv (r : Row) : PV := .tup [.int r.pl, optS r.co, .bool r.de]
structure Key where
  rows : List Row
  pk : Bool
noncomputable def ogS (b : Bool) : PV := .str (if b then "pk" else "u")
structure IS where
  ix : Nat
  cix : Nat
  nm : PV
  rt : PV
  k : Key
noncomputable def rowsV (l : List Row) : PO := .list (l.map Row.pv)
noncomputable def natsV (l : List Nat) : PO := .list (l.map fun i : Nat => .int i)
noncomputable def IS.po (t : Str) (x : IS) : PO := .inst 717 [("name", x.nm), ("table", .str t), ("root", x.rt), ("columns", .obj x.cix), ("unique", .bool true), ("origin", ogS x.k.pk), ("sql", .none)]
noncomputable def IS.ps (t : Str) (x : IS) : List (Nat × PO) := [(x.ix, x.po t), (x.cix, rowsV x.k.rows)]
noncomputable def CS.pp (c : CS) : Nat × PO := (c.ix, c.po)
structure PC where
  nm : Str
  ty : PV
  af : Str
  co : Str
  nn : Bool
  dx : Option PV
noncomputable def CS.p (c : CS) : PC := ⟨c.nm, c.ty, c.af, c.co, c.nn, c.dx⟩
structure MF where
  m : Nat
  t : Nat
  cl : Nat
  kl : Nat
  rl : Nat
  st : Nat
  nm : Str
  root : PV
  txt : PV
  roots : List PV
structure MS where
  il : Nat
  pl : Nat
  cols : List CS
  idx : List IS
  rowid : Option Nat
  prim : List Nat
  hasP : Bool
noncomputable def colsV (l : List CS) : List PV := l.map fun c => .obj c.ix
noncomputable def idxV (l : List IS) : List PV := l.map fun x => .obj x.ix
theorem colsV_len {l} : (colsV l).length = l.length := List.length_map _
theorem idxV_len {l} : (idxV l).length = l.length := List.length_map _
noncomputable def MF.mo (F : MF) (b : Bool) : PO := .inst 882 [("roots", .obj F.rl), ("statement", .obj F.st), ("table", .obj F.t), ("has_primary", .bool b)]
noncomputable def MF.to (F : MF) (il pl : Nat) (rowid : Option Nat) : PO := .inst 757 [("name", .str F.nm), ("root", F.root), ("columns", .obj F.cl), ("rowid_place", optI rowid), ("indexes", .obj il), ("checks", .obj F.kl), ("sql", F.txt), ("primary", .obj pl)]
noncomputable def MS.base (F : MF) (S : MS) (R : List (Nat × PO)) : List (Nat × PO) :=
  (F.m, F.mo S.hasP) :: (F.t, F.to S.il S.pl S.rowid) :: (F.cl, .list (colsV S.cols)) :: (S.pl, natsV S.prim) :: (F.kl, .list []) :: (F.rl, .list F.roots) :: (S.il, .list (idxV S.idx)) :: R
noncomputable def MS.rest (F : MF) (S : MS) : List (Nat × PO) := S.cols.map CS.pp ++ S.idx.flatMap (IS.ps F.nm)
noncomputable def MS.ps (F : MF) (S : MS) : List (Nat × PO) := S.base F (S.rest F)
section
variable {H0 H : PH} {F : MF} {S : MS} {R : List (Nat × PO)}
theorem MS.fm (s : Sep H0 (S.base F R) H) : At H F.m (F.mo S.hasP) := s.at_ (.head _)
theorem MS.ft (s : Sep H0 (S.base F R) H) : At H F.t (F.to S.il S.pl S.rowid) := s.at_ (.tail _ (.head _))
theorem MS.fc (s : Sep H0 (S.base F R) H) : At H F.cl (.list (colsV S.cols)) := s.at_ (.tail _ (.tail _ (.head _)))
theorem MS.fp (s : Sep H0 (S.base F R) H) : At H S.pl (natsV S.prim) := s.at_ (.tail _ (.tail _ (.tail _ (.head _))))
theorem MS.fk (s : Sep H0 (S.base F R) H) : At H F.kl (.list []) := s.at_ (.tail _ (.tail _ (.tail _ (.tail _ (.head _)))))
theorem MS.fr (s : Sep H0 (S.base F R) H) : At H F.rl (.list F.roots) := s.at_ (.tail _ (.tail _ (.tail _ (.tail _ (.tail _ (.head _))))))
theorem MS.fi (s : Sep H0 (S.base F R) H) : At H S.il (.list (idxV S.idx)) := s.at_ (.tail _ (.tail _ (.tail _ (.tail _ (.tail _ (.tail _ (.head _)))))))
theorem MS.fR {p : Nat × PO} (s : Sep H0 (S.base F R) H) (h : p ∈ R) : At H p.1 p.2 := s.at_ (.tail _ (.tail _ (.tail _ (.tail _ (.tail _ (.tail _ (.tail _ h)))))))
theorem MS.cols_at (s : Sep H0 (S.base F R) H) (h : ∀ p ∈ S.cols.map CS.pp, p ∈ R) : ColsAt H S.cols := fun c hc => MS.fR s (h (c.pp) (List.mem_map_of_mem hc))
theorem MS.cols_ps (s : Sep H0 (S.ps F) H) : ColsAt H S.cols := MS.cols_at s fun _ hp => List.mem_append_left _ hp
theorem MS.fmt (s : Sep H0 (S.base F R) H) : F.m ≠ F.t := (List.pairwise_cons.mp s.nd).1 _ (.head _)
theorem MS.setM (s : Sep H0 (S.base F R) H) (b : Bool) : Sep H0 (({S with hasP := b} : MS).base F R) (H.set F.m (F.mo b)) := Sep.set (A := []) s _
theorem MS.setT (s : Sep H0 (S.base F R) H) (r : Option Nat) : Sep H0 (({S with rowid := r} : MS).base F R) (H.set F.t (F.to S.il S.pl r)) := Sep.set (A := [_]) s _
theorem MS.setP {p : List Nat} {j : Nat} (s : Sep H0 (S.base F R ++ [(j, natsV p)]) H) : Sep H0 (({S with pl := j, prim := p} : MS).base F R) (H.set F.t (F.to S.il j S.rowid)) :=
  Sep.swap (A := [_, _, _]) (Sep.set (A := [_]) s _)
theorem MS.setI {x : List IS} {j : Nat} (s : Sep H0 (S.base F R ++ [(j, .list (idxV x))]) H) : Sep H0 (({S with il := j, idx := x} : MS).base F R) (H.set F.t (F.to j S.pl S.rowid)) :=
  Sep.swap (A := [_, _, _, _, _, _]) (Sep.set (A := [_]) s _)
theorem MS.setC {A B : List CS} {c c' : CS} (hc : S.cols = A ++ c :: B) (hi : c'.ix = c.ix) (s : Sep H0 (S.ps F) H) : Sep H0 (({S with cols := A ++ c' :: B} : MS).ps F) (H.set c.ix c'.po) := by
  obtain ⟨il, pl, cols, idx, rowid, prim, hasP⟩ := S
  have hc : cols = A ++ c :: B := hc
  subst hc
  have e : ∀ d : CS, d.ix = c.ix → MS.ps F ⟨il, pl, A ++ d :: B, idx, rowid, prim, hasP⟩ = MS.base F ⟨il, pl, A ++ c :: B, idx, rowid, prim, hasP⟩ (A.map CS.pp) ++ (c.ix, d.po) :: (B.map CS.pp ++ idx.flatMap (IS.ps F.nm)) := fun d hd => by
    unfold MS.ps MS.base MS.rest
    rw [List.map_append, List.map_cons, List.append_assoc, List.cons_append, CS.pp, hd]
    simp only [colsV, List.map_append, List.map_cons, hd]
    rfl
  rw [e c rfl] at s
  show Sep H0 (MS.ps F ⟨il, pl, A ++ c' :: B, idx, rowid, prim, hasP⟩) _
  rw [e c' hi]
  exact s.set _
theorem MS.addI {k : Key} {j : Nat} (s : Sep H0 (S.ps F ++ [(j, rowsV k.rows)]) H) :
    Sep H0 (({S with idx := S.idx ++ [(⟨H.next, j, .none, .int 0, k⟩ : IS)]} : MS).ps F) ((H.push ((⟨H.next, j, .none, .int 0, k⟩ : IS).po F.nm)).set S.il (.list (idxV S.idx ++ [.obj H.next]))) := by
  have h1 := s.push (o := (⟨H.next, j, .none, .int 0, k⟩ : IS).po F.nm)
  rw [List.append_assoc] at h1
  have h3 := Sep.set (A := [_, _, _, _, _, _]) (h1.perm (List.Perm.append_left _ (List.Perm.swap _ _ _))) (.list (idxV S.idx ++ [.obj H.next]))
  refine Eq.mp ?_ h3
  congr 1
  simp [MS.ps, MS.base, MS.rest, IS.ps, idxV, colsV]
theorem MS.addC {c : CS} (hx : S.idx = []) (s : Sep H0 (S.ps F ++ [c.pp]) H) :
    Sep H0 (({S with cols := S.cols ++ [c]} : MS).ps F) (H.set F.cl (.list (colsV S.cols ++ [.obj c.ix]))) := by
  have h3 := Sep.set (A := [_, _]) s (.list (colsV S.cols ++ [.obj c.ix]))
  refine Eq.mp ?_ h3
  congr 1
  simp [MS.ps, MS.base, MS.rest, hx, colsV]
noncomputable def rootP (F : MF) (k : Nat) : PV := (F.roots[k]?).getD (.int 0)
variable {Q : KV} {n : Nat}
theorem rta_W {k : Nat} {fs : List (Str × PV)} (h1 : At H F.m (.inst 882 fs)) (hf : fs.lookup (Str.ofString "roots") = some (.obj F.rl)) (h2 : At H F.rl (.list F.roots)) (hl : F.roots.length ≤ 100) (hk : k ≤ 900) (hQ : Q (rootP F k) H) : CallC (lv (n + 10)) 817 [.obj F.m, .int k] Q H := by
  refine rta_c (e_attr h1 (by kernel_rfl) hf (e_len h2 (by omega) (e_lt (c_if (fun h => ?_) fun h => ?_))))
  · have h : k < F.roots.length := Int.ofNat_lt.mp h
    have e := List.getElem?_eq_getElem h
    refine e_attr h1 (by kernel_rfl) hf (e_subs h2 (by omega) e ?_)
    rw [rootP, e] at hQ
    exact hQ
  · rw [rootP, List.getElem?_eq_none (Nat.le_of_not_lt fun h' => h (Int.ofNat_lt.mpr h'))] at hQ
    exact hQ
theorem raw_ogS {b} : noRaw (ogS b) = true := rfl
theorem adu_W {j : Nat} {k : Key} (s : Sep H0 (S.ps F ++ [(j, rowsV k.rows)]) H) (hl : S.idx.length < 100)
    (hQ : ∀ H', Sep H0 (({S with idx := S.idx ++ [(⟨H.next, j, .none, .int 0, k⟩ : IS)]} : MS).ps F) H' → Q .none H') : CallC (lv (n + 16)) 862 [.obj F.m, .obj j, ogS k.pk] Q H := by
  have f2 := MS.ft (R := S.rest F ++ [_]) s
  have f3 := MS.fi (R := S.rest F ++ [_]) s
  have len : (idxV S.idx).length < 1000 := by rw [idxV_len]; omega
  have f1 := MS.fm (R := S.rest F ++ [_]) s
  refine adu_c (e_attr f1 (by kernel_rfl) rfl (e_attr f2 (by kernel_rfl) rfl (e_calL f3 (.inl rfl) (e_attr f1 (by kernel_rfl) rfl (e_attr f2 (by kernel_rfl) rfl (mk_Index rfl ?_))))))
  exact e_append f3.push len (e_none (hQ _ (MS.addI s)))
end
end Mine
namespace Mine
open PySem
structure Acc where
  keys : List Key
  rowid : Option Nat
  prim : List Nat
  hasP : Bool
inductive Evn where
  | oth
  | uq (rows : List Row)
  | pk (rows : List Row) (isr : Bool)
noncomputable def Acc.step (A : Acc) : Evn → Acc
  | .oth => A
  | .uq rows => {A with keys := A.keys ++ [⟨rows, false⟩]}
  | .pk rows isr => ⟨if isr then A.keys else A.keys ++ [⟨rows, true⟩], if isr then rows.head?.map (·.pl) else A.rowid, rows.map (·.pl), true⟩
noncomputable def Acc.ok (A : Acc) : Evn → Prop
  | .oth => True
  | .uq _ => A.keys.length < 100
  | .pk _ _ => A.keys.length < 100 ∧ A.hasP = false
noncomputable def Acc.allOk : Acc → List Evn → Prop
  | _, [] => True
  | A, e :: es => A.ok e ∧ (A.step e).allOk es
noncomputable def MS.acc (S : MS) : Acc := ⟨S.idx.map (·.k), S.rowid, S.prim, S.hasP⟩
inductive Rule where
  | nn
  | uq
  | coll (c : Str)
  | dflt (v : PV)
  | pk (b : Bool)
noncomputable def Rule.tv (e : Nat) : Rule → PV
  | .nn => .tup [.str "not null", .none]
  | .uq => .tup [.str "unique", .none]
  | .coll c => .tup [.str "collate", .str c]
  | .dflt _ => .tup [.str "default", .obj e]
  | .pk b => .tup [.str "primary key", .bool b]
noncomputable def Rule.ev (i : Nat) (ty : PV) : Rule → Evn
  | .uq => .uq [⟨i, none, false⟩]
  | .pk b => .pk [⟨i, none, b⟩] (isIntP ty && !b)
  | _ => .oth
noncomputable def PC.app (c : PC) : Rule → PC
  | .nn => {c with nn := true}
  | .coll s => {c with co := foldP s}
  | .dflt v => {c with dx := some v}
  | _ => c
noncomputable def collOk' (s : Str) : Prop := s.length ≤ 100 ∧ collOk (foldP s) = true
noncomputable def litAt (H : PH) (e : Nat) (v : PV) : Prop := At H e (.inst 144 [("value", v)])
noncomputable def Rule.ok (H : PH) (e : Nat) : Rule → Prop
  | .coll s => collOk' s
  | .dflt v => litAt H e v
  | _ => True
noncomputable def CSOk (H : PH) (c : CS) : Prop := (c.ty, c.af) ∈ tys ∧ c.nm.length ≤ 100 ∧ match c.dx with
  | none => c.dv = .none
  | some v => ∃ e, c.dv = .obj e ∧ litAt H e v
noncomputable def MOk (H : PH) (S : MS) : Prop := (∀ c ∈ S.cols, CSOk H c) ∧ S.cols.length ≤ 100
noncomputable def foldRow (r : Row) : Row := ⟨r.pl, r.co.map foldP, r.de⟩
noncomputable def icAt (names : List Str) (H : PH) (r : Row) (e : Nat) : Prop := ∃ nm, names[r.pl]? = some nm ∧ At H e (.inst 558 [("name", .str nm), ("collation", optS r.co), ("descending", .bool r.de)])
theorem icAt.mono {names} {H H' : PH} {r e} (h : icAt names H r e) (g : Ge H H') : icAt names H' r e := let ⟨nm, b, c⟩ := h; ⟨nm, b, c.ge g⟩
noncomputable def nameOk (names : List Str) : Prop := names.length ≤ 100 ∧ ∀ (i : Nat) nm, names[i]? = some nm → nm.length ≤ 100 ∧ placeP names nm = .int i
noncomputable def rowOk (r : Row) : Prop := r.pl < 100 ∧ ∀ c, r.co = some c → collOk' c
noncomputable def isrT (ts : List PV) (rows : List Row) : Bool := match rows with
  | [r] => (ts[r.pl]?.map isIntP).getD false
  | _ => false
noncomputable def conEv (ts : List PV) (pk : Bool) (rows : List Row) : Evn := if pk then .pk (rows.map foldRow) (isrT ts rows) else .uq (rows.map foldRow)
theorem raw_dv {H0 : PH} {c : CS} (h : CSOk H0 c) : noRaw c.dv = true := by
  have h3 := h.2.2
  cases hx : c.dx with
  | none => rw [hx] at h3; exact congrArg noRaw h3
  | some v => rw [hx] at h3; obtain ⟨e, h3, _⟩ := h3; exact congrArg noRaw h3
section
variable {Q : KV} {H H0 : PH} {n : Nat} {F : MF} {S : MS} {R : List (Nat × PO)}
theorem adp_W {j : Nat} {rows : List Row} {isr : Bool} (s : Sep H0 (S.ps F ++ [(j, rowsV rows)]) H) (hp : S.hasP = false) (hr : rows ≠ []) (hl : rows.length ≤ 100) (hi : S.idx.length < 100)
    (hQ : ∀ H' S', Sep H0 (MS.ps F S') H' → S'.cols = S.cols → S'.acc = S.acc.step (.pk rows isr) → Q .none H') : CallC (lv (n + 30)) 855 [.obj F.m, .obj j, .bool isr] Q H := by
  have s0 : Sep H0 (S.base F (S.rest F ++ [(j, rowsV rows)])) H := s
  have f1 := hp ▸ MS.fm s0
  have len : (rows.map Row.pv).length ≤ 1000 := by rw [List.length_map]; omega
  have s1 := MS.setM s0 true
  have mem : (j, rowsV rows) ∈ S.rest F ++ [(j, rowsV rows)] := List.mem_append_right _ (.head _)
  have a1 := MS.fR s1 mem
  refine adp_c (e_attr f1 (by kernel_rfl) rfl (e_testF (e_set (F.mo true) f1 (by kernel_rfl) rfl (by kernel_rfl) (e_srcL a1 len ?_))))
  refine mapC_r (F := Row.pv) (fun r => PV.int r.pl) (fun _ => True) True.intro a1.get (fun r _ ℓ _ k hk => e_itemsT (e_unp3 (hk _ True.intro))) (e_alloc (by rw [List.length_map] at *; exact len) ?_)
  have e : rows.map (fun r => PV.int r.pl) = (rows.map (·.pl)).map fun i : Nat => .int i := by rw [List.map_map]; rfl
  rw [e]
  have s2 := s1.push (o := natsV (rows.map (·.pl)))
  have f2 := (MS.ft s1).push (x := natsV (rows.map (·.pl)))
  have s3 := MS.setP (S := {S with hasP := true}) (R := S.rest F ++ [(j, rowsV rows)]) s2
  refine e_attr (MS.fm s1).push (by kernel_rfl) rfl (e_set (F.to S.il (H.set F.m (F.mo true)).next S.rowid) f2 (by kernel_rfl) rfl (by kernel_rfl) ?_)
  cases isr with
  | false =>
    refine e_testF (e_meth (MS.fm s3) rfl (by kernel_rfl) (adu_W (n := n + 10) (k := ⟨rows, true⟩) (S := { S with hasP := true, pl := (H.set F.m (F.mo true)).next, prim := rows.map (·.pl) }) s3 hi fun H' s' => e_none ?_))
    exact hQ _ _ s' rfl (by simp [MS.acc, Acc.step])
  | true =>
    obtain ⟨r0, rr, rfl⟩ := List.exists_cons_of_ne_nil hr
    have a3 := MS.fR s3 mem
    refine e_testT (e_subsL 0 rfl a3 (by decide) rfl (e_subsLT 0 rfl (Nat.le_of_ble_eq_true rfl) (by decide) rfl ?_))
    have s4 := MS.setT s3 (some r0.pl)
    refine e_attr (MS.fm s3) (by kernel_rfl) rfl (e_set (F.to S.il (H.set F.m (F.mo true)).next (some r0.pl)) (MS.ft s3) (by kernel_rfl) rfl (by kernel_rfl) ?_)
    refine hQ _ { S with hasP := true, pl := (H.set F.m (F.mo true)).next, prim := (r0 :: rr).map (·.pl), rowid := some r0.pl } ?_ rfl (by simp [MS.acc, Acc.step])
    exact Sep.sub s4 (List.sublist_append_left (MS.ps F { S with hasP := true, pl := (H.set F.m (F.mo true)).next, prim := (r0 :: rr).map (·.pl), rowid := some r0.pl }) _)
theorem con_W {o : Nat} {r : Row} (s : Sep H0 (S.ps F) H) (ok : MOk H0 S) (hn : nameOk (S.cols.map (·.nm))) (ho : icAt (S.cols.map (·.nm)) H r o) (hr : rowOk r)
    (hQ : ∀ H', Ge H H' → Q (Row.pv (foldRow r)) H') : CallC (lv (n + 40)) 850 [.obj F.m, .obj o] Q H := by
  have f2 := MS.ft (R := S.rest F) s
  obtain ⟨nm, hnm, fo⟩ := ho
  have hk := hn.2 _ _ hnm
  refine con_c (e_attr (MS.fm (R := S.rest F) s) (by kernel_rfl) rfl (e_meth (f := 742) f2 rfl (by kernel_rfl) (e_attr fo (by kernel_rfl) rfl ?_)))
  refine plo_W (n := n + 13) (cs := S.cols) f2 rfl (MS.fc (R := S.rest F) s) (MS.cols_ps s) ok.2 (by omega) (fun c hc => Nat.le_trans (ok.1 c hc).2.1 (by decide)) fun H1 g => ?_
  rw [hk.2]
  refine e_isS rfl (e_lt (c_F (decide_eq_false (by omega)) ?_))
  have fo1 := fo.ge g
  obtain ⟨pl, co, de⟩ := r
  cases co with
  | none => exact e_attr fo1 (by kernel_rfl) rfl (e_isN (e_attr fo1 (by kernel_rfl) rfl (e_bool (e_tp rfl (hQ _ g)))))
  | some c =>
    have hcc := hr.2 c rfl
    exact e_attr fo1 (by kernel_rfl) rfl (e_isS rfl (e_attr fo1 (by kernel_rfl) rfl (cco_W (n := n + 12) (Nat.le_trans hcc.1 (by decide)) hcc.2 fun H2 gg => e_attr (fo1.ge gg) (by kernel_rfl) rfl (e_bool (e_tp rfl (hQ _ (g.trans gg)))))))
noncomputable def kindS (pk : Bool) : Str := bif pk then "primary key" else "unique"
theorem atc_W {k kx : Nat} {pk : Bool} {krs : List (Row × Nat)} (s : Sep H0 (S.ps F) H) (ok : MOk H0 S) (hn : nameOk (S.cols.map (·.nm)))
    (hk : At H k (.inst 584 [("kind", .str (kindS pk)), ("columns", .obj kx), ("check", .none)])) (hx : At H kx (.list (krs.map fun p => .obj p.2)))
    (hr : ∀ p ∈ krs, icAt (S.cols.map (·.nm)) H p.1 p.2 ∧ rowOk p.1) (hl : krs.length ≤ 100) (h0 : krs ≠ []) (hA : S.acc.ok (conEv (S.cols.map (·.ty)) pk (krs.map (·.1))))
    (hQ : ∀ H' S', Sep H0 (MS.ps F S') H' → S'.cols = S.cols → S'.acc = S.acc.step (conEv (S.cols.map (·.ty)) pk (krs.map (·.1))) → Q .none H') : CallC (lv (n + 50)) 843 [.obj F.m, .obj k] Q H := by
  have len : (krs.map fun p => PV.obj p.2).length ≤ 1000 := by rw [List.length_map]; omega
  have len2 : (krs.map fun p => (foldRow p.1).pv).length ≤ 1000 := by rw [List.length_map]; omega
  refine atc_c (e_attr hk (by kernel_rfl) rfl (e_eq (r := false) (by cases pk <;> kernel_rfl) (e_attr hk (by kernel_rfl) rfl (e_srcL hx len ?_))))
  refine loopC_i (fun i a ℓ H1 => Ge H H1 ∧ ℓ "self" = some (.obj F.m) ∧ a = (krs.take i).map fun p => (foldRow p.1).pv) (fun _ _ _ _ h => (hx.ge h.1).get) ?_ ?_ ⟨.refl, rfl, rfl⟩
  · rintro i v a ℓ H1 k hv ⟨g, hself, rfl⟩ hk
    rw [List.getElem?_map, Option.map_eq_some_iff] at hv
    obtain ⟨⟨r, e⟩, hre, rfl⟩ := hv
    have hm := List.mem_of_getElem? hre
    refine e_opt hself (e_meth (MS.fm (R := S.rest F) (s.mono g)) rfl (by kernel_rfl) (con_W (n := n + 6) (s.mono g) ok hn ((hr _ hm).1.mono g) (hr _ hm).2 fun H2 g2 => hk _ _ _ ⟨g.trans g2, hself, ?_⟩))
    rw [List.take_add_one, hre]
    simp
  · rintro b ℓ H1 ⟨g, hself, rfl⟩
    rw [List.take_of_length_le (by rw [List.length_map]; exact Nat.le_refl _)]
    refine e_alloc len2 ?_
    have eL : (krs.map fun p => (foldRow p.1).pv) = (krs.map fun p => foldRow p.1).map Row.pv := by rw [List.map_map]; rfl
    have s1 := (s.mono g).push (o := rowsV (krs.map fun p => foldRow p.1))
    rw [rowsV, ← eL] at s1
    have f1 := (MS.fm (R := S.rest F) (s.mono g)).push (x := .list (krs.map fun p => (foldRow p.1).pv))
    have e3 : (krs.map fun p => foldRow p.1) = (krs.map (·.1)).map foldRow := by rw [List.map_map]; rfl
    refine e_attr (hk.ge g).push (by kernel_rfl) rfl (e_eq (r := !pk) (by cases pk <;> kernel_rfl) ?_)
    cases pk with
    | false =>
      refine e_meth f1 rfl (by kernel_rfl) (adu_W (n := n + 30) (k := ⟨krs.map fun p => foldRow p.1, false⟩) (S := S) (by rw [rowsV, ← eL]; exact s1) (by simpa [conEv, Acc.ok, MS.acc] using hA) fun H' s' => e_none ?_)
      exact hQ _ _ s' rfl (by rw [conEv, if_neg (by decide), ← e3]; simp [MS.acc, Acc.step])
    | true =>
      rw [conEv, if_pos rfl, ← e3] at hA hQ
      have hA : S.idx.length < 100 ∧ S.hasP = false := by simpa [Acc.ok, MS.acc] using hA
      refine e_len .new len2 (f_eq rfl ?_)
      have fin : ∀ {b H2}, b = isrT (S.cols.map (·.ty)) (krs.map (·.1)) → Ge (H1.push (.list (krs.map fun p => (foldRow p.1).pv))) H2 → atc6 n Q (.obj F.m) (.obj H1.next) (.bool b) H2 := by
        rintro b H2 rfl g2
        have s2 := s1.mono g2
        refine e_meth (f1.ge g2) rfl (by kernel_rfl) (adp_W (n := n + 17) (rows := krs.map fun p => foldRow p.1) (S := S) (by rw [rowsV, ← eL]; exact s2) hA.2 (by simpa using h0) (by rw [List.length_map]; exact hl) hA.1 fun H' S' s' hc' ha' => e_none (hQ _ _ s' hc' ha'))
      obtain ⟨⟨r0, e0⟩, rr, rfl⟩ := List.exists_cons_of_ne_nil h0
      cases rr with
      | nil =>
        obtain ⟨⟨nm, hnm, fo⟩, hro⟩ := hr (r0, e0) (.head _)
        rw [List.getElem?_map, Option.map_eq_some_iff] at hnm
        obtain ⟨c, hc, rfl⟩ := hnm
        have hm := List.mem_of_getElem? hc
        have f2 := (MS.ft (R := S.rest F) (s.mono g)).push (x := .list ([(r0, e0)].map fun p => (foldRow p.1).pv))
        have f3 := (MS.fc (R := S.rest F) (s.mono g)).push (x := .list ([(r0, e0)].map fun p => (foldRow p.1).pv))
        refine e_testT (e_attr f1 (by kernel_rfl) rfl (e_attr f2 (by kernel_rfl) rfl (e_subsL 0 rfl .new (by decide) rfl (e_subsLT 0 rfl (Nat.le_of_ble_eq_true rfl) (by decide) rfl (e_subs (k := r0.pl) f3 (Nat.lt_of_lt_of_le hro.1 (by decide)) (by rw [colsV, List.getElem?_map, hc]; rfl) ?_)))))
        refine iit_W (n := n + 24) (c := c) ((MS.cols_ps (s.mono g) c hm).push) ⟨_, (ok.1 c hm).1⟩ fun H2 g2 => fin ?_ g2
        show _ = ((S.cols.map (·.ty))[r0.pl]?.map isIntP).getD false
        rw [List.getElem?_map, hc]; rfl
      | cons p2 rr =>
        have hne : (((((r0, e0) :: p2 :: rr).map fun p => (foldRow p.1).pv).length : Int) == 1) = false := by simp; omega
        rw [hne]
        exact e_testF (fin rfl .refl)
end
end Mine
namespace Mine
open PySem
theorem MOk.sub {H : PH} {S S' : MS} (h : MOk H S) (e : S'.cols = S.cols) : MOk H S' := by
  unfold MOk
  rw [e]
  exact h
section
variable {Q : KV} {H H0 : PH} {n : Nat} {F : MF} {S : MS} {R : List (Nat × PO)}
theorem adc_W {o lx : Nat} {nm af : Str} {ty : PV} (s : Sep H0 (S.ps F) H) (ok : MOk H0 S) (ho : At H o (.inst 532 [("name", .str nm), ("type_name", ty), ("constraints", .obj lx)])) (hn : nm.length ≤ 100) (ht : (ty, af) ∈ tys)
    (hp : placeP (S.cols.map (·.nm)) nm = .none) (hx : S.idx = []) (hl : S.cols.length < 100)
    (hQ : ∀ H' S', Sep H0 (MS.ps F S') H' → MOk H0 S' → S'.cols.map CS.p = S.cols.map CS.p ++ [⟨nm, ty, af, "binary", false, none⟩] → S'.acc = S.acc → S'.idx = [] → Q .none H') : CallC (lv (n + 40)) 831 [.obj F.m, .obj o] Q H := by
  have f1 := MS.fm (R := S.rest F) s
  have f2 := MS.ft (R := S.rest F) s
  have f3 := MS.fc (R := S.rest F) s
  refine adc_c (e_attr f1 (by kernel_rfl) rfl (e_meth (f := 742) f2 rfl (by kernel_rfl) (e_attr ho (by kernel_rfl) rfl ?_)))
  refine plo_W (n := n + 12) (cs := S.cols) f2 rfl f3 (MS.cols_ps s) ok.2 (Nat.le_trans hn (by decide)) (fun c hc => Nat.le_trans (ok.1 c hc).2.1 (by decide)) fun H1 g => ?_
  rw [hp]
  refine e_neg (e_tp rfl (e_ninT (Nat.le_of_ble_eq_true rfl) (r := true) rfl (e_attr (f1.ge g) (by kernel_rfl) rfl (e_attr (f2.ge g) (by kernel_rfl) rfl (e_calL (f3.ge g) (.inl rfl) (e_attr (ho.ge g) (by kernel_rfl) rfl (e_attr (ho.ge g) (by kernel_rfl) rfl ?_)))))))
  refine mk_Column (n := n + 8) (p := (ty, af)) ht fun H2 gg hc => ?_
  have s1 := (s.mono g).new (o := CS.po ⟨H1.next, nm, ty, af, "binary", false, .none, none⟩) gg (Nat.le_refl _) hc
  have s2 := MS.addC (c := ⟨H1.next, nm, ty, af, "binary", false, .none, none⟩) hx s1
  refine e_append ((f3.ge g).ge gg) (by rw [colsV_len]; omega) (e_none (hQ _ _ s2 ⟨fun c hc => ?_, by simp; omega⟩ (by simp [CS.p]) rfl hx))
  rcases List.mem_append.mp hc with hc | hc
  · exact ok.1 c hc
  · cases List.mem_singleton.mp hc
    exact ⟨ht, hn, rfl⟩
theorem acc_W {A B : List CS} {c : CS} {r : Rule} {e : Nat} {wd dt : PV} (s : Sep H0 (S.ps F) H) (ok : MOk H0 S) (hc : S.cols = A ++ c :: B) (hr : r.ok H0 e) (htv : r.tv e = .tup [wd, dt]) (hA : S.acc.ok (r.ev A.length c.ty))
    (hQ : ∀ H' S' c', Sep H0 (MS.ps F S') H' → MOk H0 S' → S'.cols = A ++ c' :: B → c'.p = c.p.app r → S'.acc = S.acc.step (r.ev A.length c.ty) → Q .none H') : CallC (lv (n + 50)) 838 [.obj F.m, .int A.length, wd, dt] Q H := by
  have f1 := MS.fm (R := S.rest F) s
  have f2 := MS.ft (R := S.rest F) s
  have f3 := MS.fc (R := S.rest F) s
  have hg : (colsV S.cols)[A.length]? = some (.obj c.ix) := by rw [hc, colsV]; simp
  have hm : c ∈ S.cols := by rw [hc]; exact List.mem_append_right _ (.head _)
  have hcs := ok.1 c hm
  have fc := MS.cols_ps s c hm
  have hlen := ok.2
  have hAl : A.length < 1000 := by rw [hc] at hlen; simp at hlen; omega
  have okset : ∀ c', CSOk H0 c' → MOk H0 ({S with cols := A ++ c' :: B} : MS) := by
    intro c' h'
    refine ⟨fun x hx => ?_, by rw [hc] at hlen; simpa using hlen⟩
    rcases List.mem_append.mp hx with hx | hx
    · exact ok.1 x (by rw [hc]; exact List.mem_append_left _ hx)
    · rcases List.mem_cons.mp hx with rfl | hx
      · exact h'
      · exact ok.1 x (by rw [hc]; exact List.mem_append_right _ (.tail _ hx))
  refine acc_c (e_attr f1 (by kernel_rfl) rfl (e_attr f2 (by kernel_rfl) rfl (e_subs f3 hAl hg ?_)))
  cases r with
  | nn =>
    cases htv
    exact e_eq (r := true) rfl (e_set (CS.po {c with nn := true}) fc (by kernel_rfl) rfl (by kernel_rfl) (hQ _ _ _ (MS.setC (c' := {c with nn := true}) hc rfl s) (okset _ hcs) rfl rfl rfl))
  | uq =>
    cases htv
    refine e_eq (r := false) rfl (e_eq (r := false) rfl (e_eq (r := false) rfl (e_eq (r := false) rfl (e_eq (r := true) rfl (e_meth (f := 862) f1 rfl (by kernel_rfl) (e_tp rfl (e_al rfl ?_)))))))
    refine adu_W (n := n + 26) (k := ⟨[⟨A.length, none, false⟩], false⟩) (S := S) s.push (by simpa [Rule.ev, Acc.ok, MS.acc] using hA) fun H' s' => e_none ?_
    exact hQ _ _ c s' ok hc rfl (by simp [MS.acc, Acc.step, Rule.ev])
  | coll cl =>
    cases htv
    refine e_eq (r := false) rfl (e_eq (r := false) rfl (e_eq (r := false) rfl (e_eq (r := true) rfl ?_)))
    refine cco_W (n := n + 19) (Nat.le_trans hr.1 (by decide)) hr.2 fun H1 g => ?_
    exact e_set (CS.po {c with co := foldP cl}) (fc.ge g) (by kernel_rfl) rfl (by kernel_rfl) (hQ _ _ _ (MS.setC (c' := {c with co := foldP cl}) hc rfl (s.mono g)) (okset _ hcs) rfl rfl rfl)
  | dflt v =>
    cases htv
    refine e_eq (r := false) rfl (e_eq (r := true) rfl (cde_W (n := n + 15) (At.ge s.ge hr) fun H1 g => e_none ?_))
    exact e_set (CS.po {c with dv := .obj e, dx := some v}) (fc.ge g) (by kernel_rfl) rfl (by kernel_rfl) (hQ _ _ _ (MS.setC (c' := {c with dv := .obj e, dx := some v}) hc rfl (s.mono g)) (okset _ ⟨hcs.1, hcs.2.1, e, rfl, hr⟩) rfl rfl rfl)
  | pk b =>
    cases htv
    refine e_eq (r := false) rfl (e_eq (r := false) rfl (e_eq (r := false) rfl (e_eq (r := false) rfl (e_eq (r := false) rfl (e_eq (r := true) rfl (e_meth (f := 855) f1 rfl (by kernel_rfl) (e_bool (e_tp rfl (e_al rfl ?_)))))))))
    refine iit_W (n := n + 17) (c := c) fc.push ⟨_, hcs.1⟩ fun H2 g2 => ?_
    have s2 := (s.push (o := rowsV [⟨A.length, none, b⟩])).mono g2
    have hA' : S.acc.keys.length < 100 ∧ S.acc.hasP = false := hA
    have key : ∀ isr, isr = (isIntP c.ty && !b) → CallC (lv (n + 11 + 30)) 855 [.obj F.m, .obj H.next, .bool isr] (noneK (unitK (Q .none))) H2 := fun isr hi =>
      adp_W (rows := [⟨A.length, none, b⟩]) (S := S) s2 hA'.2 (by simp) (Nat.le_of_ble_eq_true rfl) (by simpa [MS.acc] using hA'.1) fun H' S' s' hc' ha' => e_none (hQ _ _ c s' (ok.sub hc') (hc'.trans hc) rfl (by rw [ha', hi]; rfl))
    cases hi : isIntP c.ty with
    | true => exact e_testT (e_not (key _ (by rw [hi]; rfl)))
    | false => exact e_testF (key _ (by rw [hi]; rfl))
end
structure DC where
  nm : Str
  ty : PV
  af : Str
  rules : List Rule
structure DR where
  pk : Bool
  rows : List Row
structure SNode where
  ix : Nat
  lx : Nat
  nm : Str
  ty : PV
  af : Str
  rs : List (Rule × Nat)
noncomputable def SNode.dc (x : SNode) : DC := ⟨x.nm, x.ty, x.af, x.rs.map (·.1)⟩
structure SCon where
  ix : Nat
  kx : Nat
  pk : Bool
  krs : List (Row × Nat)
noncomputable def SCon.dr (y : SCon) : DR := ⟨y.pk, y.krs.map (·.1)⟩
structure SSt where
  st : Nat
  cx : Nat
  kx : Nat
  nm : Str
  nodes : List SNode
  cons : List SCon
noncomputable def DC.init (c : DC) : PC := ⟨c.nm, c.ty, c.af, "binary", false, none⟩
noncomputable def DC.fin (c : DC) : PC := c.rules.foldl PC.app c.init
noncomputable def evsC : Nat → List DC → List Evn
  | _, [] => []
  | i, c :: cs => c.rules.map (Rule.ev i c.ty) ++ evsC (i + 1) cs
noncomputable def evsK (ts : List PV) (ks : List DR) : List Evn := ks.map fun k => conEv ts k.pk k.rows
structure SNode.ok (H : PH) (x : SNode) : Prop where
  a : At H x.ix (.inst 532 [("name", .str x.nm), ("type_name", x.ty), ("constraints", .obj x.lx)])
  l : At H x.lx (.list (x.rs.map fun p => p.1.tv p.2))
  r : ∀ p ∈ x.rs, p.1.ok H p.2
  rl : x.rs.length ≤ 100
  nl : x.nm.length ≤ 100
  t : (x.ty, x.af) ∈ tys
structure SCon.ok (names : List Str) (H : PH) (y : SCon) : Prop where
  a : At H y.ix (.inst 584 [("kind", .str (kindS y.pk)), ("columns", .obj y.kx), ("check", .none)])
  l : At H y.kx (.list (y.krs.map fun p => .obj p.2))
  r : ∀ p ∈ y.krs, icAt names H p.1 p.2 ∧ rowOk p.1
  rl : y.krs.length ≤ 100
  n : y.krs ≠ []
noncomputable def nameFresh (names : List Str) : Prop := ∀ i nm, names[i]? = some nm → placeP (names.take i) nm = .none
structure SSt.ok (H : PH) (z : SSt) : Prop where
  s : At H z.st (.inst 610 [("name", .str z.nm), ("columns", .obj z.cx), ("constraints", .obj z.kx), ("if_missing", .bool false), ("text", .str "CREATE TABLE ..")])
  c : At H z.cx (.list (z.nodes.map fun x => .obj x.ix))
  k : At H z.kx (.list (z.cons.map fun x => .obj x.ix))
  no : ∀ x ∈ z.nodes, x.ok H
  co : ∀ y ∈ z.cons, y.ok (z.nodes.map (·.nm)) H
  nl : z.nodes.length ≤ 100
  kl : z.cons.length ≤ 100
  na : nameOk (z.nodes.map (·.nm))
  nf : nameFresh (z.nodes.map (·.nm))
theorem foldl_app {rs : List Rule} {c : PC} : (rs.foldl PC.app c).nm = c.nm ∧ (rs.foldl PC.app c).ty = c.ty ∧ (rs.foldl PC.app c).af = c.af := by
  induction rs generalizing c with
  | nil => exact ⟨rfl, rfl, rfl⟩
  | cons r rs ih => rw [List.foldl_cons, ih.1, ih.2.1, ih.2.2]; cases r <;> exact ⟨rfl, rfl, rfl⟩
theorem PC.app_ty {c : PC} {r : Rule} : (c.app r).ty = c.ty := by cases r <;> rfl
theorem Rule.ok.mono {H H' : PH} {r : Rule} {e} (h : r.ok H e) (g : Ge H H') : r.ok H' e := by
  cases r with
  | dflt v => exact At.ge g h
  | _ => exact h
theorem Rule.tv2 (r : Rule) (e : Nat) : ∃ wd dt, r.tv e = .tup [wd, dt] := by cases r <;> exact ⟨_, _, rfl⟩
noncomputable def Acc.z : Acc := ⟨[], none, [], false⟩
noncomputable def rootsAt (H : PH) (rp : PV) (roots : List PV) : Prop := (rp = .none ∧ roots = []) ∨ ∃ rx, rp = .obj rx ∧ At H rx (.list roots)
section
variable {Q : KV} {H H0 : PH} {n : Nat}
noncomputable def mkF (H : PH) (z : SSt) (roots : List PV) : MF := ⟨H.next, H.next + 3, H.next + 2, H.next + 5, H.next + 1, z.st, z.nm, (roots[0]?).getD (.int 0), .str "CREATE TABLE ..", roots⟩
noncomputable def mkS (H : PH) : MS := ⟨H.next + 4, H.next + 6, [], [], none, [], false⟩
noncomputable def mkH (H : PH) (z : SSt) (roots : List PV) : PH := ((((((H.push ((mkF H z roots).mo false)).push (.list roots)).push (.list [])).push ((mkF H z roots).to (H.next + 4) (H.next + 6) none)).push (.list [])).push (.list [])).push (.list [])
theorem mk_sep {z : SSt} {roots : List PV} : Sep H ((mkS H).ps (mkF H z roots)) (mkH H z roots) := by
  have s := ((((((Sep.nil (H0 := H) .refl).push (o := (mkF H z roots).mo false)).push (o := .list roots)).push (o := .list [])).push (o := (mkF H z roots).to (H.next + 4) (H.next + 6) none)).push (o := .list [])).push (o := .list []) |>.push (o := .list [])
  refine s.perm (List.Perm.cons _ ?_)
  refine (List.perm_middle (l₁ := [_, _])).trans (List.Perm.cons _ ?_)
  refine (List.perm_middle (l₁ := [_])).trans (List.Perm.cons _ ?_)
  refine (List.perm_middle (l₁ := [_, _, _])).trans (List.Perm.cons _ ?_)
  refine (List.perm_middle (l₁ := [_, _])).trans (List.Perm.cons _ ?_)
  exact List.Perm.refl _
theorem ps4 {a b l m o p : PO} : (((((H.push a).push l).push m).push o).push p).set H.next b = ((((H.push b).push l).push m).push o).push p := (push_set_ne (G := (((H.push a).push l).push m).push o) (by show H.next ≠ H.next + 4; omega)).trans (congrArg (PH.push · p) ps3)
theorem ps5 {a b l m o p q : PO} : ((((((H.push a).push l).push m).push o).push p).push q).set H.next b = (((((H.push b).push l).push m).push o).push p).push q := (push_set_ne (G := ((((H.push a).push l).push m).push o).push p) (by show H.next ≠ H.next + 5; omega)).trans (congrArg (PH.push · q) ps4)
theorem ps6 {a b l m o p q r : PO} : (((((((H.push a).push l).push m).push o).push p).push q).push r).set H.next b = ((((((H.push b).push l).push m).push o).push p).push q).push r := (push_set_ne (G := (((((H.push a).push l).push m).push o).push p).push q) (by show H.next ≠ H.next + 6; omega)).trans (congrArg (PH.push · r) ps5)
noncomputable def rootsOk (roots : List PV) : Prop := ∀ k : Nat, noRaw ((roots[k]?).getD (.int 0)) = true
theorem mk_Maker {z : SSt} {rp : PV} {roots : List PV} (hz : z.ok H) (hr : rootsAt H rp roots) (hl : roots.length ≤ 100) (ho : rootsOk roots)
    (hQ : ∀ H', Sep H ((mkS H).ps (mkF H z roots)) H' → Q (.obj H.next) H') : CallC (lv (n + 20)) 882 [.obj z.st, rp] Q H := by
  have hq := hQ _ mk_sep
  have go : iMak6 n (mkK Q H.next) (.obj H.next) (.obj z.st) (.obj (H.next + 1)) ((H.push (.inst 882 [])).push (.list roots)) := by
    refine e_set (.inst 882 [("roots", .obj (H.next + 1))]) At.new.push (by kernel_rfl) rfl (by kernel_rfl) (ps1.symm ▸ ?_)
    refine e_set (.inst 882 [("roots", .obj (H.next + 1)), ("statement", .obj z.st)]) At.new.push (by kernel_rfl) rfl (by kernel_rfl) (ps1.symm ▸ ?_)
    refine e_attr hz.s.push.push (by kernel_rfl) rfl (e_meth (f := 817) At.new.push rfl (by kernel_rfl) (rta_W (n := n + 6) (F := mkF H z roots) (k := 0) At.new.push rfl .new hl (by decide) (e_al rfl (e_attr hz.s.push.push.push (by kernel_rfl) rfl ?_))))
    refine mk_Table (n := n + 9) rfl (ho 0) rfl rfl ?_
    refine e_set (.inst 882 [("roots", .obj (H.next + 1)), ("statement", .obj z.st), ("table", .obj (H.next + 3))]) At.new.push.push.push.push.push.push (by kernel_rfl) rfl (by kernel_rfl) (ps6.symm ▸ ?_)
    exact e_set ((mkF H z roots).mo false) At.new.push.push.push.push.push.push (by kernel_rfl) rfl (by kernel_rfl) (ps6.symm ▸ e_none (Eq.mp (by kernel_rfl) hq))
  rcases hr with ⟨rfl, rfl⟩ | ⟨rx, rfl, fx⟩
  · exact mk_882 (iMak_c (e_isN (e_al rfl go)))
  · exact mk_882 (iMak_c (e_isS rfl (e_list fx.push (by omega) go)))
end
end Mine
namespace Mine
open PySem
theorem SNode.ok.mono {H H' : PH} {x : SNode} (h : x.ok H) (g : Ge H H') : x.ok H' := ⟨h.a.ge g, h.l.ge g, fun p hp => (h.r p hp).mono g, h.rl, h.nl, h.t⟩
theorem SCon.ok.mono {names} {H H' : PH} {y : SCon} (h : y.ok names H) (g : Ge H H') : y.ok names H' := ⟨h.a.ge g, h.l.ge g, fun p hp => ⟨(h.r p hp).1.mono g, (h.r p hp).2⟩, h.rl, h.n⟩
theorem SSt.ok.mono {H H' : PH} {z : SSt} (h : z.ok H) (g : Ge H H') : z.ok H' :=
  ⟨h.s.ge g, h.c.ge g, h.k.ge g, fun x hx => (h.no x hx).mono g, fun y hy => (h.co y hy).mono g, h.nl, h.kl, h.na, h.nf⟩
noncomputable def evA (z : SSt) : List Evn := evsC 0 (z.nodes.map (·.dc)) ++ evsK (z.nodes.map (·.ty)) (z.cons.map (·.dr))
noncomputable def evR (z : SSt) (i : Nat) : List Evn := evsC i ((z.nodes.drop i).map (·.dc)) ++ evsK (z.nodes.map (·.ty)) (z.cons.map (·.dr))
theorem map_nil_inv {α β : Type} {f : α → β} {q : List α} (h : [] = q.map f) : q = [] := List.map_eq_nil_iff.mp h.symm
theorem map_cons_inv {α β : Type} {f : α → β} {q : List α} {v : β} {r : List β} (h : v :: r = q.map f) : ∃ x q', q = x :: q' ∧ v = f x ∧ r = q'.map f := by
  obtain ⟨x, q', a, b, c⟩ := List.map_eq_cons_iff.mp h.symm
  exact ⟨x, q', a, b.symm, c.symm⟩
structure RdA (H0 : PH) (F : MF) (S : MS) (z : SSt) (q : List SNode) (S1 : MS) (ℓ : Loc) (H1 : PH) : Prop where
  mem : ∀ x ∈ q, x ∈ z.nodes
  self : ℓ "self" = some (.obj F.m)
  s : Sep H0 (MS.ps F S1) H1
  ok : MOk H0 S1
  idx : S1.idx = []
  acc : S1.acc = S.acc
  e : S1.cols.map CS.p ++ q.map (·.dc.init) = z.nodes.map (·.dc.init)
structure RdB (H0 : PH) (F : MF) (S : MS) (z : SSt) (i : Nat) (S1 : MS) (ℓ : Loc) (H1 : PH) : Prop where
  self : ℓ "self" = some (.obj F.m)
  s : Sep H0 (MS.ps F S1) H1
  ok : MOk H0 S1
  e : S1.cols.map CS.p = (z.nodes.take i).map (·.dc.fin) ++ (z.nodes.drop i).map (·.dc.init)
  all : S1.acc.allOk (evR z i)
  f : (evR z i).foldl Acc.step S1.acc = (evA z).foldl Acc.step S.acc
structure RdC (H0 : PH) (F : MF) (S : MS) (z : SSt) (i : Nat) (x : SNode) (q : List (Rule × Nat)) (S1 : MS) (A : List CS) (c : CS) (B : List CS) (ℓ : Loc) (H1 : PH) : Prop where
  mem : ∀ p ∈ q, p.1.ok H0 p.2
  self : ℓ "self" = some (.obj F.m)
  pl : ℓ "place" = some (.int i)
  s : Sep H0 (MS.ps F S1) H1
  ok : MOk H0 S1
  cs : S1.cols = A ++ c :: B
  al : A.length = i
  ap : A.map CS.p = (z.nodes.take i).map (·.dc.fin)
  bp : B.map CS.p = (z.nodes.drop (i + 1)).map (·.dc.init)
  cp : (q.map (·.1)).foldl PC.app c.p = x.dc.fin
  ty : c.ty = x.ty
  all : S1.acc.allOk ((q.map (·.1)).map (Rule.ev i x.ty) ++ evR z (i + 1))
  f : ((q.map (·.1)).map (Rule.ev i x.ty) ++ evR z (i + 1)).foldl Acc.step S1.acc = (evA z).foldl Acc.step S.acc
structure RdD (H0 : PH) (F : MF) (S : MS) (z : SSt) (q : List SCon) (S1 : MS) (ℓ : Loc) (H1 : PH) : Prop where
  mem : ∀ x ∈ q, x ∈ z.cons
  self : ℓ "self" = some (.obj F.m)
  s : Sep H0 (MS.ps F S1) H1
  ok : MOk H0 S1
  e : S1.cols.map CS.p = z.nodes.map (·.dc.fin)
  all : S1.acc.allOk (evsK (z.nodes.map (·.ty)) (q.map (·.dr)))
  f : (evsK (z.nodes.map (·.ty)) (q.map (·.dr))).foldl Acc.step S1.acc = (evA z).foldl Acc.step S.acc
section
variable {Q : KV} {H H0 : PH} {n : Nat} {F : MF} {S : MS} {z : SSt}
theorem names_of {S1 : MS} {nodes : List SNode} (h : S1.cols.map CS.p = nodes.map (·.dc.fin)) : S1.cols.map (·.nm) = nodes.map (·.nm) ∧ S1.cols.map (·.ty) = nodes.map (·.ty) := by
  have h1 := congrArg (List.map PC.nm) h
  have h2 := congrArg (List.map PC.ty) h
  rw [List.map_map, List.map_map] at h1 h2
  refine ⟨Eq.trans (by rfl) (h1.trans ?_), Eq.trans (by rfl) (h2.trans ?_)⟩
  · exact List.map_congr_left fun x _ => foldl_app.1
  · exact List.map_congr_left fun x _ => foldl_app.2.1
theorem rd_W (s : Sep H0 (S.ps F) H) (hz : z.ok H0) (hst : F.st = z.st) (hc : S.cols = []) (hi : S.idx = []) (hA : S.acc.allOk (evA z))
    (hQ : ∀ H' S', Sep H0 (MS.ps F S') H' → MOk H0 S' → S'.cols.map CS.p = z.nodes.map (·.dc.fin) → S'.acc = (evA z).foldl Acc.step S.acc → Q (.obj F.t) H') :
    CallC (lv (n + 60)) 824 [.obj F.m] Q H := by
  have fst : ∀ {S1 : MS} {H1}, Sep H0 (MS.ps F S1) H1 → At H1 F.m (F.mo S1.hasP) := fun s1 => MS.fm (R := MS.rest F _) s1
  have hz1 : ∀ {S1 : MS} {H1}, Sep H0 (MS.ps F S1) H1 → z.ok H1 := fun s1 => hz.mono s1.ge
  have znl : (z.nodes.map fun x => PV.obj x.ix).length ≤ 1000 := by rw [List.length_map]; exact Nat.le_trans hz.nl (by decide)
  have zkl : (z.cons.map fun x => PV.obj x.ix).length ≤ 1000 := by rw [List.length_map]; exact Nat.le_trans hz.kl (by decide)
  refine rd_c (e_attr (fst s) (by kernel_rfl) rfl (e_attr (hst ▸ (hz1 s).s) (by kernel_rfl) rfl (e_srcL (hz1 s).c znl ?_)))
  refine loopF_r (fun r ℓ H1 => ∃ q S1, r = q.map (fun x : SNode => PV.obj x.ix) ∧ RdA H0 F S z q S1 ℓ H1) (fun r ℓ H1 ⟨q, S1, _, I⟩ => (hz1 I.s).c.get) ?_ ?_ ⟨z.nodes, S, rfl, fun x h => h, rfl, s, ⟨by simp [hc], by simp [hc]⟩, hi, rfl, by simp [hc]⟩
  · rintro v r ℓ H1 k ⟨q, S1, hr, I⟩ hk
    obtain ⟨x, q, rfl, rfl, rfl⟩ := map_cons_inv hr
    have hx := (hz.no x (I.mem x (.head _))).mono I.s.ge
    have hen : S1.cols.map (·.nm) ++ x.nm :: q.map (·.nm) = z.nodes.map (·.nm) := by
      have := congrArg (List.map PC.nm) I.e
      simpa [CS.p, DC.init, SNode.dc, Function.comp_def] using this
    have hlen : S1.cols.length < 100 := by
      have := congrArg List.length hen
      simp at this
      have := hz.nl
      omega
    have hf := hz.nf S1.cols.length x.nm (by rw [← hen]; simp)
    rw [← hen] at hf
    refine e_opt I.self (e_meth (fst I.s) rfl (by kernel_rfl) (adc_W (n := n + 16) (nm := x.nm) (af := x.af) (ty := x.ty) I.s I.ok hx.a hx.nl hx.t (by simpa using hf) I.idx hlen fun H2 S2 s2 ok2 hc2 ha2 hi2 => e_none (hk _ _ ⟨q, S2, rfl, fun y hy => I.mem y (.tail _ hy), I.self, s2, ok2, hi2, ha2.trans I.acc, ?_⟩)))
    rw [hc2, List.append_assoc]
    exact I.e
  · rintro ℓ H1 ⟨q, S1, hr, I⟩
    cases map_nil_inv hr
    have he1 := I.e
    rw [List.map_nil, List.append_nil] at he1
    have cl : (colsV S1.cols).length ≤ 100 := by rw [colsV_len]; exact I.ok.2
    refine e_opt I.self (e_attr (fst I.s) (by kernel_rfl) rfl (e_attr (MS.ft (R := S1.rest F) I.s) (by kernel_rfl) rfl (e_len (MS.fc (R := S1.rest F) I.s) (Nat.le_trans cl (by decide)) (e_gt (c_F (decide_eq_false (by omega)) ?_)))))
    refine e_opt I.self (e_attr (fst I.s) (by kernel_rfl) rfl (e_attr (hst ▸ (hz1 I.s).s) (by kernel_rfl) rfl (e_len (hz1 I.s).c znl (e_range znl (e_srcR znl ?_)))))
    refine loopF_i (fun i ℓ H1 => ∃ S1, RdB H0 F S z i S1 ℓ H1) (fun _ _ _ _ => True.intro) ?_ ?_ ⟨S1, I.self, I.s, I.ok, he1, by rw [I.acc]; exact hA, by rw [I.acc]; rfl⟩
    · rintro i v ℓ H1 k hv ⟨S1, I⟩ hk
      obtain ⟨hlt, rfl⟩ := natsL_get hv
      rw [List.length_map] at hlt
      obtain ⟨x, hx'⟩ : ∃ x, z.nodes[i] = x := ⟨_, rfl⟩
      have hx : z.nodes[i]? = some x := by rw [← hx']; exact List.getElem?_eq_getElem hlt
      have hxo := hz.no x (List.mem_of_getElem? hx)
      have hxo1 := hxo.mono I.s.ge
      have hd : z.nodes.drop i = x :: z.nodes.drop (i + 1) := by rw [List.drop_eq_getElem_cons hlt, hx']
      have rl : (x.rs.map fun p => p.1.tv p.2).length ≤ 1000 := by rw [List.length_map]; exact Nat.le_trans hxo.rl (by decide)
      refine e_opt I.self (e_attr (fst I.s) (by kernel_rfl) rfl (e_attr (hst ▸ (hz1 I.s).s) (by kernel_rfl) rfl (e_subs (hz1 I.s).c (by have := hz.nl; omega) (by rw [List.getElem?_map, hx]; rfl) (e_attr hxo1.a (by kernel_rfl) rfl (e_srcL hxo1.l rl ?_)))))
      have he1 := I.e
      rw [hd] at he1
      obtain ⟨A, B1, e1, e2, e3⟩ := List.map_eq_append_iff.mp he1
      obtain ⟨c, B, e4, e5, e6⟩ := List.map_eq_cons_iff.mp e3
      have hAl : A.length = i := by
        have := congrArg List.length e2
        simp at this
        omega
      have ha := I.all
      have hf := I.f
      have ev : evR z i = (x.rs.map (·.1)).map (Rule.ev i x.ty) ++ evR z (i + 1) := by rw [evR, hd, List.map_cons, evsC, List.append_assoc]; rfl
      rw [ev] at ha hf
      refine loopF_r (fun r ℓ H1 => ∃ q S1 A c B, r = q.map (fun p : Rule × Nat => p.1.tv p.2) ∧ RdC H0 F S z i x q S1 A c B ℓ H1) (fun r ℓ H1 ⟨_, _, _, _, _, _, I⟩ => (hxo.l.ge I.s.ge).get) ?_ ?_ ⟨x.rs, S1, A, c, B, rfl, hxo.r, I.self, rfl, I.s, I.ok, by rw [e1, e4], hAl, e2, e6, by rw [e5]; rfl, congrArg PC.ty e5, ha, hf⟩
      · rintro v r ℓ H1 k ⟨q, S1, A, c, B, hr, I⟩ hk
        obtain ⟨⟨rl, e⟩, q, rfl, rfl, rfl⟩ := map_cons_inv hr
        obtain ⟨wd, dt, htv⟩ := rl.tv2 e
        dsimp only
        have hao := I.all
        have haf := I.f
        have hal := I.al
        subst hal
        rw [List.map_cons, List.map_cons, List.cons_append] at hao haf
        rw [List.foldl_cons] at haf
        rw [htv]
        refine e_itemsT (e_unp2 (e_opt I.self (e_meth (f := 838) (fst I.s) rfl (by kernel_rfl) (e_opt I.pl (acc_W (n := n + 5) I.s I.ok I.cs (I.mem (rl, e) (.head _)) htv (I.ty ▸ hao.1) fun H2 S2 c2 s2 ok2 hs2 hc2 ha2 => e_none (hk _ _ ⟨q, S2, A, c2, B, rfl, fun p hp => I.mem p (.tail _ hp), I.self, I.pl, s2, ok2, hs2, rfl, I.ap, I.bp, ?_, ?_, ?_, ?_⟩))))))
        · rw [hc2]; exact I.cp
        · have := congrArg PC.ty hc2
          rw [PC.app_ty] at this
          exact this.trans I.ty
        · rw [ha2, I.ty]; exact hao.2
        · rw [ha2, I.ty]; exact haf
      · rintro ℓ H1 ⟨q, S1, A, c, B, hr, I⟩
        cases map_nil_inv hr
        refine hk _ _ ⟨S1, I.self, I.s, I.ok, ?_, I.all, I.f⟩
        have hcp : c.p = x.dc.fin := I.cp
        rw [I.cs, List.map_append, List.map_cons, I.ap, I.bp, hcp, List.take_add_one, hx]
        simp
    · rintro ℓ H1 ⟨S1, I⟩
      have he1 := I.e
      have ha := I.all
      have hf := I.f
      rw [natsL_len, List.length_map] at he1 ha hf
      rw [evR, List.drop_length, List.map_nil, evsC, List.nil_append] at ha hf
      rw [List.take_length, List.drop_length, List.map_nil, List.append_nil] at he1
      refine e_opt I.self (e_attr (fst I.s) (by kernel_rfl) rfl (e_attr (hst ▸ (hz1 I.s).s) (by kernel_rfl) rfl (e_srcL (hz1 I.s).k zkl ?_)))
      refine loopF_r (fun r ℓ H1 => ∃ q S1, r = q.map (fun x : SCon => PV.obj x.ix) ∧ RdD H0 F S z q S1 ℓ H1) (fun r ℓ H1 ⟨_, _, _, I⟩ => (hz1 I.s).k.get) ?_ ?_ ⟨z.cons, S1, rfl, fun x h => h, I.self, I.s, I.ok, he1, ha, hf⟩
      · rintro v r ℓ H1 k ⟨q, S1, hr, I⟩ hk
        obtain ⟨y, q, rfl, rfl, rfl⟩ := map_cons_inv hr
        have hy := (hz.co y (I.mem y (.head _))).mono I.s.ge
        obtain ⟨hnm, hty⟩ := names_of I.e
        have ha1 := I.all
        have hf1 := I.f
        rw [List.map_cons, evsK, List.map_cons] at ha1 hf1
        rw [List.foldl_cons] at hf1
        rw [← hnm] at hy
        refine e_opt I.self (e_meth (fst I.s) rfl (by kernel_rfl) (atc_W (n := n + 6) (k := y.ix) (kx := y.kx) (pk := y.pk) (krs := y.krs) I.s I.ok (by rw [hnm]; exact hz.na) hy.a hy.l hy.r hy.rl hy.n (by rw [hty]; exact ha1.1) fun H2 S2 s2 hc2 ha2 => e_none (hk _ _ ⟨q, S2, rfl, fun x hx => I.mem x (.tail _ hx), I.self, s2, I.ok.sub hc2, by rw [hc2]; exact I.e, ?_, ?_⟩)))
        · rw [ha2, hty]; exact ha1.2
        · rw [ha2, hty]; exact hf1
      · rintro ℓ H1 ⟨q, S1, hr, I⟩
        cases map_nil_inv hr
        have f3 := MS.fk (R := S1.rest F) I.s
        refine e_opt I.self (e_attr (fst I.s) (by kernel_rfl) rfl (e_attr (MS.ft (R := S1.rest F) I.s) (by kernel_rfl) rfl (e_srcL f3 (Nat.zero_le _) ⟨f3.get, e_opt I.self (e_attr (fst I.s) (by kernel_rfl) rfl (hQ _ _ I.s I.ok I.e I.f))⟩)))
end
end Mine
namespace Mine
open PySem
noncomputable def zipAll {α β : Type} (p : α → β → Bool) : List α → List β → Bool
  | a :: as, b :: bs => p a b && zipAll p as bs
  | _, _ => true
theorem eqAll_map {α β : Type} {H : PH} {f : α → PV} {g : β → PV} {p : α → β → Bool} {d : Nat} : ∀ (as : List α) (bs : List β) (n : Nat), (∀ a ∈ as, ∀ b ∈ bs, ∀ k, d ≤ k → eqP H k (f a) (g b) = some (p a b)) → as.length + d < n → eqAllP H n (as.map f) (bs.map g) = some (zipAll p as bs)
  | [], bs, n + 1, h, hn => by rw [List.map_nil, eqAllP]; rfl
  | a :: as, [], n + 1, h, hn => by rw [List.map_nil, List.map_cons, eqAllP]; rfl
  | a :: as, b :: bs, n + 1, h, hn => by
    rw [List.length_cons] at hn
    rw [List.map_cons, List.map_cons, eqAllP, h a (.head _) b (.head _) n (by omega)]
    dsimp only
    rw [eqAll_map as bs n (fun a ha b hb => h a (.tail _ ha) b (.tail _ hb)) (by omega)]
    rfl
  | _, _, 0, h, hn => absurd hn (Nat.not_lt_zero _)
theorem zipAll_map {α β γ : Type} [DecidableEq γ] {u : α → γ} {v : β → γ} : ∀ (as : List α) (bs : List β), as.length = bs.length → zipAll (fun a b => decide (u a = v b)) as bs = decide (as.map u = bs.map v)
  | [], [], _ => rfl
  | a :: as, b :: bs, h => by
    rw [zipAll, List.map_cons, List.map_cons, zipAll_map as bs (Nat.succ.inj h), ← Bool.decide_and]
    exact decide_eq_decide.mpr (by rw [List.cons.injEq])
  | [], _ :: _, h => nomatch h
  | _ :: _, [], h => nomatch h
theorem eqL {α β γ : Type} [DecidableEq γ] {H : PH} {i j : Nat} {as : List α} {bs : List β} {f : α → PV} {g : β → PV} (u : α → γ) (v : β → γ) (hij : i ≠ j) (hi : At H i (.list (as.map f))) (hj : At H j (.list (bs.map g)))
    (hp : ∀ a ∈ as, ∀ b ∈ bs, ∀ k, 8 ≤ k → eqP H k (f a) (g b) = some (decide (u a = v b))) (hl : as.length ≤ 20) : eqP H 40 (.obj i) (.obj j) = some (decide (as.map u = bs.map v)) := by
  unfold eqP
  dsimp only
  rw [if_neg hij, hi.get, hj.get]
  dsimp only
  by_cases h : as.length = bs.length
  · rw [if_pos (by rw [List.length_map, List.length_map, h]), eqAll_map (p := fun a b => decide (u a = v b)) (d := 8) as bs 39 hp (by omega), zipAll_map as bs h]
  · have e : ¬ as.map u = bs.map v := fun e => h (by have := congrArg List.length e; rwa [List.length_map, List.length_map] at this)
    rw [if_neg (by rw [List.length_map, List.length_map]; exact h), decide_eq_false e]
theorem eq_optS {H : PH} {a b : Option Str} {k : Nat} : eqP H (k + 1) (optS a) (optS b) = some (decide (a = b)) := by
  cases a <;> cases b <;> first | rfl | skip
  refine congrArg some ?_
  show (_ == _) = _
  rw [Bool.eq_iff_iff, beq_iff_eq, decide_eq_true_eq, Option.some.injEq]
theorem eq_int {H : PH} {a b : Nat} {k : Nat} : eqP H (k + 1) (.int a) (.int b) = some (decide (a = b)) := by
  refine congrArg some ?_
  show ((a : Int) == (b : Int)) = _
  rw [Bool.eq_iff_iff, beq_iff_eq, decide_eq_true_eq]
  exact Int.ofNat_inj
theorem eq_optI {H : PH} {a : Nat} {b : Option Nat} {k : Nat} : eqP H (k + 1) (.int a) (optI b) = some (decide (some a = b)) := by
  cases b with
  | none => rfl
  | some b => rw [optI, eq_int]; exact congrArg some (decide_eq_decide.mpr (by rw [Option.some.injEq]))
noncomputable def headV (r : Row) : PV := .tup [.int r.pl, optS r.co]
noncomputable def headO (r : Row) : Nat × Option Str := (r.pl, r.co)
theorem eq_head {H : PH} {a b : Row} {k : Nat} (hk : 8 ≤ k) : eqP H k (headV a) (headV b) = some (decide (headO a = headO b)) := by
  obtain ⟨k, rfl⟩ : ∃ m, k = m + 8 := ⟨k - 8, by omega⟩
  unfold headV
  rw [eqP.eq_def]
  dsimp only
  rw [if_pos ⟨Nat.le_of_ble_eq_true rfl, Nat.le_of_ble_eq_true rfl⟩, eqAllP, eqAllP, eqAllP, eq_int, eq_optS]
  simp [headO]
section
variable {Q : KV} {H H0 : PH} {n : Nat} {F : MF} {S : MS} {R : List (Nat × PO)}
theorem pls_W {t : Str} {x : IS} (h1 : At H x.ix (x.po t)) (h2 : At H x.cix (rowsV x.k.rows)) (hl : x.k.rows.length ≤ 20) (hQ : Q (.obj H.next) (H.push (.list (x.k.rows.map fun r => .int r.pl)))) : CallC (lv (n + 8)) 714 [.obj x.ix] Q H :=
  pls_c (e_attr h1 (by kernel_rfl) rfl (e_srcL h2 (by rw [List.length_map]; omega) (mapC_r (F := Row.pv) (fun r => PV.int r.pl) (fun _ => True) True.intro h2.get (fun r _ ℓ _ k hk => e_itemsT (e_unp3 (hk _ True.intro))) (e_alloc (by rw [List.length_map]; omega) hQ))))
noncomputable def settleRow (cs : List PC) (r : Row) : Row := ⟨r.pl, some (r.co.getD ((cs[r.pl]?.map (·.co)).getD "")), r.de⟩
theorem std_W {r : Row} (s : Sep H0 (S.base F R) H) (hR : ∀ p ∈ S.cols.map CS.pp, p ∈ R) (hr : r.pl < S.cols.length) (hl : S.cols.length ≤ 100) (hQ : Q (settleRow (S.cols.map CS.p) r).pv H) : CallC (lv (n + 12)) 874 [.obj F.m, r.pv] Q H := by
  have hc : S.cols[r.pl]? = some S.cols[r.pl] := List.getElem?_eq_getElem hr
  obtain ⟨pl, co, de⟩ := r
  cases co with
  | none =>
    refine std_c (e_itemsT (e_unp3 (e_isN (e_attr (MS.fm s) (by kernel_rfl) rfl (e_attr (MS.ft s) (by kernel_rfl) rfl (e_subs (k := pl) (MS.fc s) (by have : pl < S.cols.length := hr; omega) (by rw [colsV, List.getElem?_map, hc]; rfl) (e_attr (MS.cols_at s hR _ (List.getElem_mem hr)) (by kernel_rfl) rfl (e_tp rfl ?_))))))))
    rw [settleRow, List.getElem?_map, hc] at hQ
    exact hQ
  | some c => exact std_c (e_itemsT (e_unp3 (e_isS rfl (e_tp rfl hQ))))
end
theorem modify_mid {α : Type} {f : α → α} {x : α} {B : List α} : ∀ A : List α, (A ++ x :: B).modify A.length f = A ++ f x :: B
  | [] => rfl
  | a :: A => congrArg (a :: ·) (modify_mid A)
noncomputable def Key.heads (k : Key) : List (Nat × Option Str) := k.rows.map headO
noncomputable def settleStep (rowid : Option Nat) (found : List Key) (k : Key) : List Key :=
  if (k.rows.map fun r => some r.pl) = [rowid] then found else
  match found.findIdx? (fun f => decide (k.heads = f.heads)) with
  | none => found ++ [k]
  | some i => if k.pk then found.modify i (fun f => {f with pk := true}) else found
noncomputable def settleKey (cs : List PC) (k : Key) : Key := ⟨k.rows.map (settleRow cs), k.pk⟩
noncomputable def settleP (cs : List PC) (rowid : Option Nat) (ks : List Key) : List Key := (ks.map (settleKey cs)).foldl (settleStep rowid) []
noncomputable def KR (S : MS) (C : List (Nat × PO)) (F : MF) (kk : Nat) (kept : List IS) (R : List (Nat × PO)) : List (Nat × PO) := S.base F (C ++ (kk, PO.list (idxV kept)) :: (kept.flatMap (IS.ps F.nm) ++ R))
section
variable {Q : KV} {H H0 : PH} {n : Nat} {F : MF} {S : MS} {C R : List (Nat × PO)} {kept : List IS} {kk : Nat}
theorem KR.base (s : Sep H0 (KR S C F kk kept R) H) : Sep H0 (S.base F (C ++ (kk, PO.list (idxV kept)) :: (kept.flatMap (IS.ps F.nm) ++ R))) H := s
theorem KR.fkk (s : Sep H0 (KR S C F kk kept R) H) : At H kk (.list (idxV kept)) := MS.fR (KR.base s) (List.mem_append_right _ (.head _))
theorem KR.fx {x : IS} (s : Sep H0 (KR S C F kk kept R) H) (hx : x ∈ kept) : At H x.ix (x.po F.nm) ∧ At H x.cix (rowsV x.k.rows) :=
  have m : ∀ p, p ∈ x.ps F.nm → p ∈ C ++ (kk, PO.list (idxV kept)) :: (kept.flatMap (IS.ps F.nm) ++ R) := fun p hp => List.mem_append_right _ (.tail _ (List.mem_append_left _ (List.mem_flatMap.mpr ⟨x, hx, hp⟩)))
  ⟨MS.fR (KR.base s) (m _ (.head _)), MS.fR (KR.base s) (m _ (.tail _ (.head _)))⟩
theorem KR.set {A B : List IS} {x x' : IS} (hk : kept = A ++ x :: B) (hi : x'.ix = x.ix) (hc : x'.cix = x.cix) (hr : x'.k.rows = x.k.rows) (s : Sep H0 (KR S C F kk kept R) H) : Sep H0 (KR S C F kk (A ++ x' :: B) R) (H.set x.ix (x'.po F.nm)) := by
  subst hk
  have e : ∀ y : IS, y.ix = x.ix → y.cix = x.cix → y.k.rows = x.k.rows → KR S C F kk (A ++ y :: B) R = S.base F (C ++ (kk, PO.list (idxV (A ++ x :: B))) :: (A.flatMap (IS.ps F.nm))) ++ (x.ix, y.po F.nm) :: (x.cix, rowsV x.k.rows) :: (B.flatMap (IS.ps F.nm) ++ R) := fun y h1 h2 h3 => by
    have h : idxV (A ++ y :: B) = idxV (A ++ x :: B) := by simp only [idxV, List.map_append, List.map_cons, h1]
    rw [KR, h, List.flatMap_append, List.flatMap_cons, IS.ps, h1, h2, h3]
    simp [MS.base]
  rw [e x rfl rfl rfl] at s
  rw [e x' hi hc hr]
  exact s.set _
theorem KR.fR {p : Nat × PO} (s : Sep H0 (KR S C F kk kept R) H) (hp : p ∈ R) : At H p.1 p.2 := MS.fR (KR.base s) (List.mem_append_right _ (.tail _ (List.mem_append_right _ hp)))
theorem nee_W {x : IS} (s : Sep H0 (KR S C F kk kept R) H) (h1 : (x.ix, x.po F.nm) ∈ R) (h2 : (x.cix, rowsV x.k.rows) ∈ R) (hl : x.k.rows.length ≤ 20) (hls : ∀ y ∈ kept, y.k.rows.length ≤ 20) (hkl : kept.length ≤ 100)
    (hQ : ∀ H' kept' b, Sep H0 (KR S C F kk kept' R) H' → kept'.length = kept.length → settleStep S.rowid (kept.map (·.k)) x.k = (if b then kept'.map (·.k) else kept'.map (·.k) ++ [x.k]) → (∀ y' ∈ kept', ∃ y ∈ kept, y'.k.rows = y.k.rows) → Q (.bool b) H') : CallC (lv (n + 20)) 879 [.obj F.m, .obj x.ix, .obj kk] Q H := by
  have xl : (x.k.rows.map headV).length ≤ 1000 := by rw [List.length_map]; omega
  have xl2 : (x.k.rows.map Row.pv).length ≤ 1000 := by rw [List.length_map]; omega
  have a1 := KR.fR s h1
  have a2 := KR.fR s h2
  refine nee_c (e_meth a1 rfl (by kernel_rfl) (pls_W (n := n + 8) a1 a2 hl (e_attr (MS.fm (KR.base s)).push (by kernel_rfl) rfl (e_attr (MS.ft (KR.base s)).push (by kernel_rfl) rfl (e_al rfl ?_)))))
  refine e_eq (eqL (as := x.k.rows) (bs := [S.rowid]) (f := fun r => .int r.pl) (g := optI) (fun r => some r.pl) id (Nat.ne_of_lt (Nat.lt_succ_self _)) (.push .new) .new (fun a _ b _ k hk => ?_) hl) (c_if (fun hn => ?_) fun hn => ?_)
  · obtain ⟨k, rfl⟩ : ∃ m, k = m + 1 := ⟨k - 1, by omega⟩
    exact eq_optI
  · rw [List.map_cons, List.map_nil, id] at hn
    exact hQ _ kept true (s.mono (.push' .push)) rfl (by rw [settleStep, if_pos hn]; rfl) (fun y hy => ⟨y, hy, rfl⟩)
  rw [List.map_cons, List.map_nil, id] at hn
  have s2 := s.mono (Ge.push' (o := .list [optI S.rowid]) (.push (o := .list (x.k.rows.map fun r => .int r.pl))))
  refine e_attr a1.push.push (by kernel_rfl) rfl (e_srcL a2.push.push xl2 (mapC_r (F := Row.pv) headV (fun _ => True) True.intro a2.push.push.get (fun r _ ℓ _ k hk => e_itemsT (e_unp3 (e_tp rfl (hk _ True.intro)))) (e_alloc xl ?_)))
  generalize ((H.push (.list (x.k.rows.map fun r => .int r.pl))).push (.list [optI S.rowid])) = H2 at s2 ⊢
  have s3 := s2.mono (Ge.push (o := .list (x.k.rows.map headV)))
  have fkk := KR.fkk s3
  have ek : At (H2.push (.list (x.k.rows.map headV))) H2.next (.list (x.k.rows.map headV)) := .new
  generalize H2.push (.list (x.k.rows.map headV)) = H3 at s3 fkk ek ⊢
  refine e_srcL fkk (by rw [idxV_len]; omega) ?_
  refine loopF_i (fun i ℓ H4 => (ℓ "keys" = some (.obj H2.next) ∧ ℓ "index" = some (.obj x.ix)) ∧ Ge H3 H4 ∧ ∀ j, j < i → ∀ y, kept[j]? = some y → ¬ x.k.heads = y.k.heads) (fun i ℓ H4 h => (fkk.ge h.2.1).get) ?_ ?_ ⟨⟨rfl, rfl⟩, .refl, fun j h => absurd h (Nat.not_lt_zero j)⟩
  · rintro i v ℓ H4 k hv ⟨⟨hk, hix⟩, g, hno⟩ kk'
    rw [idxV, List.getElem?_map, Option.map_eq_some_iff] at hv
    obtain ⟨y, hy, rfl⟩ := hv
    have hm := List.mem_of_getElem? hy
    have s4 := s3.mono g
    obtain ⟨ay, ayc⟩ := KR.fx s4 hm
    have hyl := hls y hm
    have yl : (y.k.rows.map headV).length ≤ 1000 := by rw [List.length_map]; omega
    refine e_opt hk (e_attr ay (by kernel_rfl) rfl (e_srcL ayc (by rw [List.length_map]; omega) (mapC_r (F := Row.pv) headV (fun _ => True) True.intro ayc.get (fun r _ ℓ _ k hk => e_itemsT (e_unp3 (e_tp rfl (hk _ True.intro)))) (e_alloc yl ?_))))
    have s5 := s4.mono (Ge.push (o := .list (y.k.rows.map headV)))
    have ek4 := ek.ge g
    refine e_eq (eqL (as := x.k.rows) (bs := y.k.rows) (f := headV) (g := headV) headO headO (Nat.ne_of_lt ek4.lt) ek4.push .new (fun a _ b _ k hk => eq_head hk) hl) (c_if (fun hh => ?_) fun hh => ?_)
    · have hi : i < kept.length := (List.getElem?_eq_some_iff.mp hy).1
      have hyi : kept[i] = y := (List.getElem?_eq_some_iff.mp hy).2
      have hfind : (kept.map (·.k)).findIdx? (fun f => decide (x.k.heads = f.heads)) = some i := by
        rw [List.findIdx?_eq_some_iff_getElem]
        refine ⟨by rw [List.length_map]; exact hi, ?_, fun j hj => ?_⟩
        · rw [List.getElem_map, hyi]; exact decide_eq_true hh
        · have := hno j hj _ (List.getElem?_eq_getElem (by omega))
          simpa using this
      have hstep : settleStep S.rowid (kept.map (·.k)) x.k = if x.k.pk then (kept.map (·.k)).modify i (fun f => {f with pk := true}) else kept.map (·.k) := by
        rw [settleStep, if_neg hn, hfind]
      refine e_opt hix (e_attr (KR.fR s5 h1) (by kernel_rfl) rfl (e_eq (r := x.k.pk) (by cases x.k.pk <;> kernel_rfl) ?_))
      cases hpk : x.k.pk with
      | false => exact hQ _ kept true s5 rfl (by rw [hstep, hpk]; rfl) (fun y hy => ⟨y, hy, rfl⟩)
      | true =>
        have hAB : kept = kept.take i ++ y :: kept.drop (i + 1) := by rw [← hyi, List.getElem_cons_drop, List.take_append_drop]
        have hAl : (kept.take i).length = i := by rw [List.length_take]; omega
        generalize kept.take i = A at hAB hAl
        generalize kept.drop (i + 1) = B at hAB
        refine e_set (({y with k := {y.k with pk := true}} : IS).po F.nm) ay.push (by kernel_rfl) rfl (by kernel_rfl) (hQ _ (A ++ {y with k := {y.k with pk := true}} :: B) true (KR.set (x' := {y with k := {y.k with pk := true}}) hAB rfl rfl rfl s5) ?_ ?_ ?_)
        · rw [hAB, List.length_append, List.length_append]; rfl
        · rw [hstep, hpk, hAB, ← hAl, List.map_append, List.map_cons]
          have := modify_mid (f := fun f : Key => {f with pk := true}) (x := y.k) (B := B.map (·.k)) (A.map (·.k))
          rw [List.length_map] at this
          rw [if_pos rfl, if_pos rfl, this, List.map_append]
          rfl
        · intro y' hy'
          rcases List.mem_append.mp hy' with h | h
          · exact ⟨y', by rw [hAB]; exact List.mem_append_left _ h, rfl⟩
          · rcases List.mem_cons.mp h with rfl | h
            · exact ⟨y, hm, rfl⟩
            · exact ⟨y', by rw [hAB]; exact List.mem_append_right _ (.tail _ h), rfl⟩
    · refine kk' _ _ ⟨⟨hk, hix⟩, g.push', fun j hj y' hy' => ?_⟩
      rcases Nat.lt_or_ge j i with h | h
      · exact hno j h y' hy'
      · cases (Nat.le_antisymm h (Nat.le_of_lt_succ hj) : i = j)
        rw [hy] at hy'
        cases hy'
        exact hh
  · rintro ℓ H4 ⟨_, g, hno⟩
    refine hQ _ kept false (s3.mono g) rfl ?_ (fun y hy => ⟨y, hy, rfl⟩)
    have hfind : (kept.map (·.k)).findIdx? (fun f => decide (x.k.heads = f.heads)) = none := by
      rw [List.findIdx?_eq_none_iff]
      intro f hf
      obtain ⟨y, hy, rfl⟩ := List.mem_map.mp hf
      obtain ⟨j, hj, rfl⟩ := List.mem_iff_getElem.mp hy
      exact decide_eq_false (hno j (by rw [idxV_len]; exact hj) _ (List.getElem?_eq_getElem hj))
    rw [settleStep, if_neg hn, hfind]
    rfl
end
end Mine
namespace Mine
open PySem
noncomputable def numS (j : Nat) : Str := Str.ofString (toString (j : Int))
noncomputable def autoName (t : Str) (j : Nat) : Str := Str.ofString "pagebase_auto_" ++ t ++ Str.ofString "_" ++ numS (j + 1)
theorem num_len {j : Nat} (hj : j < 100) : (numS (j + 1)).length ≤ 10 := by
  have h : (List.range 100).all (fun j : Nat => decide ((numS (j + 1)).length ≤ 10)) = true := by kernel_rfl
  exact of_decide_eq_true (List.all_eq_true.mp h j (List.mem_range.mpr hj))
noncomputable def KOk (N : Nat) (k : Key) : Prop := k.rows.length ≤ 20 ∧ ∀ r ∈ k.rows, r.pl < N
structure StA (H0 : PH) (F : MF) (S : MS) (kk : Nat) (kept todo : List IS) (ℓ : Loc) (H1 : PH) : Prop where
  self : ℓ "self" = some (.obj F.m)
  kp : ℓ "kept" = some (.obj kk)
  s : Sep H0 (KR S (S.cols.map CS.pp) F kk kept (todo.flatMap (IS.ps F.nm))) H1
  f : (todo.map fun x => settleKey (S.cols.map CS.p) x.k).foldl (settleStep S.rowid) (kept.map (·.k)) = settleP (S.cols.map CS.p) S.rowid (S.idx.map (·.k))
  ko : ∀ x ∈ todo, KOk S.cols.length x.k
  kl : ∀ y ∈ kept, y.k.rows.length ≤ 20
  len : kept.length + todo.length ≤ 90
structure StB (H0 : PH) (F : MF) (S : MS) (kk : Nat) (ks : List Key) (i : Nat) (kept : List IS) (ℓ : Loc) (H1 : PH) : Prop where
  self : ℓ "self" = some (.obj F.m)
  kp : ℓ "kept" = some (.obj kk)
  s : Sep H0 (KR S (S.cols.map CS.pp) F kk kept []) H1
  ks : kept.map (·.k) = ks
  no : ∀ j, j < i → ∀ x, kept[j]? = some x → x.nm = .str (autoName F.nm j) ∧ x.rt = rootP F (j + 1)
section
variable {Q : KV} {H H0 : PH} {n : Nat} {F : MF} {S : MS} {C R : List (Nat × PO)} {kept : List IS} {kk : Nat}
theorem ms_base_eq : S.base F R = S.base F [] ++ R := rfl
theorem KR.start (s : Sep H0 (S.ps F ++ [(kk, .list [])]) H) : Sep H0 (KR S (S.cols.map CS.pp) F kk [] (S.idx.flatMap (IS.ps F.nm))) H := by
  refine Sep.perm s ?_
  rw [MS.ps, KR, MS.rest, ms_base_eq, ms_base_eq (R := _ ++ _ :: _), List.append_assoc, List.append_assoc]
  exact List.Perm.append_left _ (List.Perm.append_left _ (List.perm_append_comm (l₁ := S.idx.flatMap (IS.ps F.nm)) (l₂ := [(kk, PO.list [])])))
theorem KR.newCols {x : IS} {k' : Key} (hp : k'.pk = x.k.pk) (s : Sep H0 (KR S C F kk kept (x.ps F.nm ++ R)) H) : Sep H0 (KR S C F kk kept (({x with cix := H.next, k := k'} : IS).ps F.nm ++ R)) ((H.push (rowsV k'.rows)).set x.ix (({x with cix := H.next, k := k'} : IS).po F.nm)) := by
  have s1 := s.push (o := rowsV k'.rows)
  have e : ∀ (a b : Nat × PO) (Y : List (Nat × PO)), KR S C F kk kept ([a, b] ++ Y) = S.base F (C ++ (kk, PO.list (idxV kept)) :: kept.flatMap (IS.ps F.nm)) ++ a :: b :: Y := fun a b Y => by simp [KR, MS.base]
  rw [IS.ps, e, List.append_assoc, List.cons_append, List.cons_append] at s1
  have h := s1.set (({x with cix := H.next, k := k'} : IS).po F.nm)
  rw [IS.ps, e]
  have h2 := Sep.swap (A := S.base F (C ++ (kk, PO.list (idxV kept)) :: kept.flatMap (IS.ps F.nm)) ++ [(x.ix, ({x with cix := H.next, k := k'} : IS).po F.nm)]) (i := x.cix) (o := rowsV x.k.rows) (B := R) (j := H.next) (p := rowsV k'.rows) (H0 := H0) (by rw [List.append_assoc, List.append_assoc]; exact h)
  rw [List.append_assoc] at h2
  exact h2
theorem KR.keep {x : IS} (s : Sep H0 (KR S C F kk kept (x.ps F.nm ++ R)) H) : Sep H0 (KR S C F kk (kept ++ [x]) R) (H.set kk (.list (idxV kept ++ [.obj x.ix]))) := by
  have h := Sep.set (A := S.base F C) (i := kk) (o := PO.list (idxV kept)) (B := kept.flatMap (IS.ps F.nm) ++ (x.ps F.nm ++ R)) (H0 := H0) s (.list (idxV kept ++ [.obj x.ix]))
  have e : KR S C F kk (kept ++ [x]) R = S.base F C ++ (kk, .list (idxV kept ++ [.obj x.ix])) :: (kept.flatMap (IS.ps F.nm) ++ (x.ps F.nm ++ R)) := by
    rw [KR, idxV, List.map_append, List.flatMap_append, List.append_assoc, List.flatMap_cons, List.flatMap_nil, List.append_nil]; rfl
  rw [e]
  exact h
theorem KR.drop {X : List (Nat × PO)} (s : Sep H0 (KR S C F kk kept (X ++ R)) H) : Sep H0 (KR S C F kk kept R) H := by
  refine Sep.sub s ?_
  rw [KR, KR, ms_base_eq, ms_base_eq (R := _ ++ _ :: (_ ++ (_ ++ _)))]
  exact List.Sublist.append_left (List.Sublist.append_left (List.Sublist.cons_cons _ (List.Sublist.append_left (List.sublist_append_right _ _) _)) _) _
theorem KR.fin (s : Sep H0 (KR S (S.cols.map CS.pp) F kk kept []) H) : Sep H0 (({S with il := kk, idx := kept} : MS).ps F) (H.set F.t (F.to kk S.pl S.rowid)) := by
  refine MS.setI (R := S.cols.map CS.pp ++ kept.flatMap (IS.ps F.nm)) (Sep.perm s ?_)
  rw [KR, List.append_nil, ms_base_eq, ms_base_eq (R := _ ++ List.flatMap _ _), List.append_assoc, List.append_assoc]
  exact List.Perm.append_left _ (List.Perm.append_left _ (List.perm_append_comm (l₂ := kept.flatMap (IS.ps F.nm)) (l₁ := [(kk, _)])))
theorem stl_W (s : Sep H0 (S.ps F) H) (hk : ∀ x ∈ S.idx, KOk S.cols.length x.k) (hil : S.idx.length ≤ 90) (hcl : S.cols.length ≤ 100) (hrl : F.roots.length ≤ 100) (hro : rootsOk F.roots) (hnl : F.nm.length ≤ 100)
    (hQ : ∀ H' S', Sep H0 (MS.ps F S') H' → S'.cols = S.cols → S'.rowid = S.rowid → S'.prim = S.prim → S'.idx.map (·.k) = settleP (S.cols.map CS.p) S.rowid (S.idx.map (·.k)) → (∀ (j : Nat) x, S'.idx[j]? = some x → x.nm = .str (autoName F.nm j) ∧ x.rt = rootP F (j + 1)) → Q .none H') :
    CallC (lv (n + 30)) 867 [.obj F.m] Q H := by
  have s1 := KR.start (s.push (o := .list []))
  have s0 := s.mono (Ge.push (o := .list []))
  refine stl_c (e_al rfl (e_attr (MS.fm (R := S.rest F) s0) (by kernel_rfl) rfl (e_attr (MS.ft (R := S.rest F) s0) (by kernel_rfl) rfl (e_srcL (MS.fi (R := S.rest F) s0) (by rw [idxV_len]; omega) ?_))))
  refine loopF_r (fun r ℓ H1 => ∃ kept todo, r = todo.map (fun x : IS => PV.obj x.ix) ∧ StA H0 F S H.next kept todo ℓ H1) (fun r ℓ H1 ⟨_, _, _, I⟩ => (MS.fi (KR.base I.s)).get) ?_ ?_ ⟨[], S.idx, rfl, rfl, rfl, s1, by rw [settleP, List.map_map]; rfl, hk, (fun _ h => nomatch h), by rw [List.length_nil, Nat.zero_add]; exact hil⟩
  · rintro v r ℓ H1 k ⟨kept, todo, hr, I⟩ kk'
    obtain ⟨x, todo, rfl, rfl, rfl⟩ := map_cons_inv hr
    have s1 := I.s
    rw [List.flatMap_cons] at s1
    have ax := KR.fR (p := (x.ix, x.po F.nm)) s1 (.head _)
    have ac := KR.fR (p := (x.cix, rowsV x.k.rows)) s1 (.tail _ (.head _))
    have hxo := I.ko x (.head _)
    have xl : (x.k.rows.map Row.pv).length ≤ 1000 := by rw [List.length_map]; have := hxo.1; omega
    refine e_attr ax (by kernel_rfl) rfl (e_srcL ac xl ?_)
    refine mapC_r (F := Row.pv) (fun r => (settleRow (S.cols.map CS.p) r).pv) (fun ℓ => ℓ "self" = some (.obj F.m)) I.self ac.get (fun r hr ℓ hs k hk => e_opt hs (e_meth (MS.fm (KR.base s1)) rfl (by kernel_rfl) (std_W (n := n + 13) (KR.base s1) (fun p hp => List.mem_append_left _ hp) (hxo.2 r hr) hcl (hk _ hs)))) ?_
    refine e_alloc (by rw [List.length_map] at *; exact xl) ?_
    have s2 := KR.newCols (k' := settleKey (S.cols.map CS.p) x.k) rfl s1
    have e2 : rowsV (settleKey (S.cols.map CS.p) x.k).rows = .list (x.k.rows.map fun r => (settleRow (S.cols.map CS.p) r).pv) := by rw [rowsV, settleKey, List.map_map]; rfl
    rw [e2] at s2
    refine e_set (({x with cix := H1.next, k := settleKey (S.cols.map CS.p) x.k} : IS).po F.nm) ax.push (by kernel_rfl) rfl (by kernel_rfl) (e_opt I.self (e_meth (f := 879) (MS.fm (KR.base s2)) rfl (by kernel_rfl) (e_opt I.kp ?_)))
    have sl : (settleKey (S.cols.map CS.p) x.k).rows.length ≤ 20 := by rw [settleKey, List.length_map]; exact hxo.1
    have len := I.len
    rw [List.length_cons] at len
    refine nee_W (n := n + 4) (x := {x with cix := H1.next, k := settleKey (S.cols.map CS.p) x.k}) (S := S) (C := S.cols.map CS.pp) s2 (.head _) (.tail _ (.head _)) sl I.kl (by omega) fun H2 kept' b s3 hlen' hst hrows => ?_
    have hf := I.f
    rw [List.map_cons, List.foldl_cons, hst] at hf
    have kl' : ∀ y ∈ kept', y.k.rows.length ≤ 20 := fun y hy => by
      obtain ⟨y0, hy0, e⟩ := hrows y hy
      rw [e]; exact I.kl y0 hy0
    cases b with
    | false =>
      refine e_testF (e_opt I.kp (e_calL (KR.fkk s3) (.inl rfl) (e_append (KR.fkk s3) (by rw [idxV_len]; omega) (e_none (kk' _ _ ⟨kept' ++ [{x with cix := H1.next, k := settleKey (S.cols.map CS.p) x.k}], todo, rfl, I.self, I.kp, KR.keep s3, ?_, fun y hy => I.ko y (.tail _ hy), fun y hy => ?_, ?_⟩)))))
      · rw [List.map_append]; exact hf
      · rcases List.mem_append.mp hy with hy | hy
        · exact kl' y hy
        · cases List.mem_singleton.mp hy; exact sl
      · rw [List.length_append, hlen']; exact (by omega : kept.length + 1 + todo.length ≤ 90)
    | true => exact e_testT (kk' _ _ ⟨kept', todo, rfl, I.self, I.kp, KR.drop s3, hf, fun y hy => I.ko y (.tail _ hy), kl', by omega⟩)
  · rintro ℓ H1 ⟨kept, todo, hr, I⟩
    cases map_nil_inv hr
    have len : kept.length ≤ 90 := I.len
    have il : (idxV kept).length ≤ 1000 := by rw [idxV_len]; omega
    refine e_opt I.kp (e_len (KR.fkk I.s) il (e_range il (e_srcR il ?_)))
    rw [idxV_len]
    refine loopF_i (fun i ℓ H2 => ∃ kp, StB H0 F S H.next (kept.map (·.k)) i kp ℓ H2) (fun _ _ _ _ => True.intro) ?_ ?_ ⟨kept, I.self, I.kp, I.s, rfl, fun j h => absurd h (Nat.not_lt_zero j)⟩
    · rintro i v ℓ H2 k hv ⟨kp, J⟩ kk'
      obtain ⟨hlt, rfl⟩ := natsL_get hv
      have hkpl : kp.length = kept.length := by have := congrArg List.length J.ks; rwa [List.length_map, List.length_map] at this
      have hi : i < kp.length := by omega
      obtain ⟨x, hx'⟩ : ∃ x, kp[i] = x := ⟨_, rfl⟩
      have hx : kp[i]? = some x := by rw [List.getElem?_eq_getElem hi, hx']
      have gx : (idxV kp)[i]? = some (.obj x.ix) := by rw [idxV, List.getElem?_map, hx]; rfl
      have hAB : kp = kp.take i ++ x :: kp.drop (i + 1) := by rw [← hx', List.getElem_cons_drop, List.take_append_drop]
      have s2 := J.s
      have s3 := KR.set (x' := {x with nm := .str (autoName F.nm i)}) hAB rfl rfl rfl s2
      have hnum := num_len (j := i) (by omega)
      have hl0 : (Str.ofString "pagebase_auto_").length = 14 := by kernel_rfl
      have hl3 : (Str.ofString "_").length = 1 := by kernel_rfl
      have hl1 : (Str.ofString "pagebase_auto_" ++ F.nm).length ≤ 200 := by rw [Str.length_append]; omega
      have hl2 : (Str.ofString "pagebase_auto_" ++ F.nm ++ Str.ofString "_").length ≤ 300 := by rw [Str.length_append]; omega
      have ax := (KR.fx s2 (List.mem_of_getElem? hx)).1
      refine e_opt J.self (e_attr (MS.fm (KR.base s2)) (by kernel_rfl) rfl (e_attr (MS.ft (KR.base s2)) (by kernel_rfl) rfl (e_addS (by omega) (e_addS (by omega) (e_add (e_strT (m := i + 1) (by omega) (e_addS ?_ (e_opt J.kp (e_subs (KR.fkk s2) (by omega) gx ?_)))))))))
      · show (Str.ofString "pagebase_auto_" ++ F.nm ++ Str.ofString "_").length + (numS (i + 1)).length ≤ 1000
        omega
      have i2 : i < (kp.take i ++ {x with nm := .str (autoName F.nm i)} :: kp.drop (i + 1)).length := by rw [List.length_append, List.length_take, List.length_cons]; omega
      have ag : (kp.take i ++ ({x with nm := .str (autoName F.nm i)} : IS) :: kp.drop (i + 1))[i]? = some {x with nm := .str (autoName F.nm i)} := by
        have := List.getElem?_append_right (l₁ := kp.take i) (l₂ := ({x with nm := .str (autoName F.nm i)} : IS) :: kp.drop (i + 1)) (i := i) (by rw [List.length_take]; omega)
        rw [this, List.length_take, Nat.min_eq_left (Nat.le_of_lt hi), Nat.sub_self]; rfl
      refine e_set (({x with nm := .str (autoName F.nm i)} : IS).po F.nm) ax (by kernel_rfl) rfl (by kernel_rfl) (e_opt J.self (e_meth (f := 817) (MS.fm (KR.base s3)) rfl (by kernel_rfl) (e_add ?_)))
      refine rta_W (n := n + 16) (F := F) (k := i + 1) (MS.fm (KR.base s3)) rfl (MS.fr (KR.base s3)) hrl (by omega) (e_opt J.kp (e_subs (KR.fkk s3) (by omega) (by rw [idxV, List.getElem?_map, ag]; rfl) ?_))
      have s4 := KR.set (kept := kp.take i ++ {x with nm := .str (autoName F.nm i)} :: kp.drop (i + 1)) (x' := {x with nm := .str (autoName F.nm i), rt := rootP F (i + 1)}) rfl rfl rfl rfl s3
      refine e_set (({x with nm := .str (autoName F.nm i), rt := rootP F (i + 1)} : IS).po F.nm) (KR.fx s3 (List.mem_of_getElem? ag)).1 (by kernel_rfl) (hro (i + 1)) (by kernel_rfl) (kk' _ _ ⟨_, J.self, J.kp, s4, ?_, fun j hj y hy => ?_⟩)
      · refine Eq.trans ?_ J.ks
        conv => rhs; rw [hAB]
        rw [List.map_append, List.map_append]
        rfl
      · have hAl : (kp.take i).length = i := by rw [List.length_take]; omega
        rcases Nat.lt_or_ge j i with h | h
        · rw [List.getElem?_append_left (by omega), List.getElem?_take_of_lt h] at hy
          exact J.no j h y hy
        · cases (Nat.le_antisymm h (Nat.le_of_lt_succ hj) : i = j)
          rw [List.getElem?_append_right (by omega), hAl, Nat.sub_self] at hy
          cases hy
          exact ⟨rfl, rfl⟩
    · rintro ℓ H2 ⟨kp, J⟩
      have hkpl : kp.length = kept.length := by have := congrArg List.length J.ks; rwa [List.length_map, List.length_map] at this
      refine e_opt J.kp (e_opt J.self (e_attr (MS.fm (KR.base J.s)) (by kernel_rfl) rfl (e_set (F.to H.next S.pl S.rowid) (MS.ft (KR.base J.s)) (by kernel_rfl) rfl (by kernel_rfl) ?_)))
      refine hQ _ _ (KR.fin J.s) rfl rfl rfl (J.ks.trans I.f) fun j x hx => J.no j ?_ x hx
      have : j < kp.length := (List.getElem?_eq_some_iff.mp hx).1
      rw [natsL_len]; omega
end
noncomputable def finA (z : SSt) : Acc := (evA z).foldl Acc.step Acc.z
structure TB (H : PH) (z : SSt) (roots : List PV) (F : MF) (S : MS) (H' : PH) : Prop where
  sep : Sep H (S.ps F) H'
  nm : F.nm = z.nm
  root : F.root = (roots[0]?).getD (.int 0)
  rts : F.roots = roots
  ok : MOk H S
  cols : S.cols.map CS.p = z.nodes.map (·.dc.fin)
  rowid : S.rowid = (finA z).rowid
  prim : S.prim = (finA z).prim
  idx : S.idx.map (·.k) = settleP (z.nodes.map (·.dc.fin)) (finA z).rowid (finA z).keys
  nr : ∀ (j : Nat) x, S.idx[j]? = some x → x.nm = .str (autoName F.nm j) ∧ x.rt = rootP F (j + 1)
structure EvOk (z : SSt) : Prop where
  all : Acc.z.allOk (evA z)
  len : (finA z).keys.length ≤ 90
  ks : ∀ k ∈ (finA z).keys, KOk z.nodes.length k
section
variable {Q : KV} {H : PH} {n : Nat}
theorem tf_W {z : SSt} {rp : PV} {roots : List PV} (hz : z.ok H) (hr : rootsAt H rp roots) (hl : roots.length ≤ 100) (ho : rootsOk roots) (hn : z.nm.length ≤ 100) (he : EvOk z)
    (hQ : ∀ H' F S, TB H z roots F S H' → Q (.obj F.t) H') : CallC (lv (n + 70)) 894 [.obj z.st, rp] Q H := by
  refine tf_c (mk_Maker (n := n + 47) hz hr hl ho fun H1 s1 => e_meth (f := 824) (MS.fm (F := mkF H z roots) (R := (mkS H).rest (mkF H z roots)) s1) rfl (by kernel_rfl) ?_)
  refine rd_W (n := n + 7) (F := mkF H z roots) s1 hz rfl rfl rfl he.all fun H2 S2 s2 ok2 hc2 ha2 => ?_
  have ha2' : S2.acc = finA z := ha2
  refine e_meth (f := 867) (MS.fm (F := mkF H z roots) (R := S2.rest (mkF H z roots)) s2) rfl (by kernel_rfl) ?_
  have hk : S2.idx.map (·.k) = (finA z).keys := congrArg Acc.keys ha2'
  have hcl : S2.cols.length = z.nodes.length := by have := congrArg List.length hc2; rwa [List.length_map, List.length_map] at this
  refine stl_W (n := n + 37) (F := mkF H z roots) s2 (fun x hx => ?_) ?_ (by rw [hcl]; exact hz.nl) hl ho hn fun H3 S3 s3 hc3 hr3 hp3 hk3 hn3 => e_none ?_
  · rw [hcl]
    exact he.ks x.k (by rw [← hk]; exact List.mem_map_of_mem hx)
  · have := congrArg List.length hk
    rw [List.length_map] at this
    rw [this]; exact he.len
  · refine hQ H3 (mkF H z roots) S3 ⟨s3, rfl, rfl, rfl, ok2.sub hc3, by rw [hc3]; exact hc2, hr3.trans (congrArg Acc.rowid ha2'), hp3.trans (congrArg Acc.prim ha2'), ?_, hn3⟩
    have hrw : S2.rowid = (finA z).rowid := congrArg Acc.rowid ha2'
    rw [hk3, hc2, hk, hrw]
end
end Mine
namespace Mine
open PySem
noncomputable def SrcOk (s : Nat) (H : PH) : Prop := ∃ a b : Int, At H s (.list [.int a, .int b]) ∧ 0 ≤ a ∧ 0 ≤ b ∧ b < 2147483647
structure Dw (s : Nat) (H H' : PH) : Prop where
  nx : H.next ≤ H'.next
  eq : ∀ j, j < H.next → j ≠ s → H'.get j = H.get j
  src : SrcOk s H'
theorem SrcOk.lt {s : Nat} {H : PH} (h : SrcOk s H) : s < H.next := let ⟨_, _, e, _⟩ := h; e.lt
section
variable {s : Nat} {H H1 H2 : PH} {j : Nat} {o : PO}
theorem At.dw (d : Dw s H H1) (h : At H j o) (n : j ≠ s) : At H1 j o := ⟨Nat.lt_of_lt_of_le h.lt d.nx, (d.eq j h.lt n).trans h.get⟩
theorem Dw.refl (h : SrcOk s H) : Dw s H H := ⟨Nat.le_refl _, fun _ _ _ => rfl, h⟩
theorem Dw.trans (a : Dw s H H1) (b : Dw s H1 H2) : Dw s H H2 := ⟨Nat.le_trans a.nx b.nx, fun j h1 h2 => (b.eq j (Nat.lt_of_lt_of_le h1 a.nx) h2).trans (a.eq j h1 h2), b.src⟩
theorem SrcOk.ge (h : SrcOk s H) (g : Ge H H1) : SrcOk s H1 := let ⟨a, b, e, r⟩ := h; ⟨a, b, e.ge g, r⟩
theorem Dw.ge (a : Dw s H H1) (g : Ge H1 H2) : Dw s H H2 := ⟨Nat.le_trans a.nx g.le, fun j h1 h2 => (g.eq j (Nat.lt_of_lt_of_le h1 a.nx)).trans (a.eq j h1 h2), a.src.ge g⟩
theorem Dw.push (a : Dw s H H1) : Dw s H (H1.push o) := a.ge .push
theorem SrcOk.set (h : SrcOk s H) (n : s ≠ j) : SrcOk s (H.set j o) := let ⟨a, b, e, r⟩ := h; ⟨a, b, e.setne n, r⟩
theorem Dw.set (a : Dw s H H1) (hs : s < H.next) (hj : H.next ≤ j) : Dw s H (H1.set j o) :=
  ⟨a.nx, fun i h1 h2 => (if_neg (Nat.ne_of_lt (Nat.lt_of_lt_of_le h1 hj))).trans (a.eq i h1 h2), a.src.set (Nat.ne_of_lt (Nat.lt_of_lt_of_le hs hj))⟩
variable {Q : KV} {n : Nat}
theorem take_W {i : Nat} {a b top : Int} (hi : At H i (.list [.int a, .int b])) (ha : 0 ≤ a) (hb : 0 ≤ b) (hb' : b < 2147483647) (ht : 0 < top) (ht' : top ≤ 100)
    (hQ : ∀ d a' b' : Int, 0 ≤ d → d < top → 0 ≤ a' → 0 ≤ b' → b' < 2147483647 → Q (.int d) (H.set i (.list [.int a', .int b']))) : CallC (lv (n + 14)) 915 [.obj i, .int top] Q H := by
  have ht0 : top ≠ 0 := by omega
  refine take_c (e_subsL 0 rfl hi (by decide) rfl (e_gt (c_if (fun h => ?_) fun h => ?_)))
  · refine e_subsL 0 rfl hi (by decide) rfl (e_mod ht0 (e_subsL 0 rfl hi (by decide) rfl (e_div ⟨ht0, by omega⟩ (e_setItemL 0 rfl hi (by decide) (Nat.le_of_ble_eq_true rfl) ?_))))
    exact hQ _ _ _ (Int.fmod_nonneg_of_pos _ ht) (Int.fmod_lt_of_pos _ ht) (Int.fdiv_nonneg ha (Int.le_of_lt ht)) hb hb'
  · refine e_subsL 1 rfl hi (by decide) rfl (e_mul ⟨by omega, by omega⟩ (e_add (e_mod (by decide) ?_)))
    have e1 := Int.fmod_nonneg_of_pos (b * 39373 + 7) (b := 2147483647) (by decide)
    have e2 := Int.fmod_lt_of_pos (b * 39373 + 7) (b := 2147483647) (by decide)
    generalize (b * 39373 + 7).fmod 2147483647 = c at e1 e2
    refine e_setItemL 1 rfl hi (by decide) (Nat.le_of_ble_eq_true rfl) (e_subsL 1 rfl hi.set (by decide) rfl (e_subsL 1 rfl hi.set (by decide) rfl (e_mul ⟨by omega, by omega⟩ (e_mod (by decide) (e_div (by decide) (e_mod ht0 ?_))))))
    exact hQ _ _ _ (Int.fmod_nonneg_of_pos _ ht) (Int.fmod_lt_of_pos _ ht) ha e1 e2
theorem take_D {top : Nat} (hs : SrcOk s H) (ht : 0 < top) (ht' : top ≤ 100) (hQ : ∀ (d : Nat) H', d < top → Dw s H H' → H'.next = H.next → Q (.int d) H') : CallC (lv (n + 14)) 915 [.obj s, .int top] Q H := by
  obtain ⟨a, b, e, ha, hb, hb'⟩ := hs
  refine take_W e ha hb hb' (by omega) (by omega) fun d a' b' hd hd' ha' hb1 hb2 => ?_
  obtain ⟨d, rfl⟩ := Int.eq_ofNat_of_zero_le hd
  exact hQ d _ (Int.ofNat_lt.mp hd') ⟨Nat.le_refl _, fun j _ h => if_neg h, a', b', e.set, ha', hb1, hb2⟩ rfl
end
theorem map_erase {α β : Type} {f : α → β} : ∀ (as : List α) (d : Nat), (as.map f).eraseIdx d = (as.eraseIdx d).map f
  | [], d => rfl
  | a :: as, 0 => rfl
  | a :: as, d + 1 => congrArg (f a :: ·) (map_erase as d)
theorem erase_perm {α : Type} : ∀ (as : List α) (d : Nat) (h : d < as.length), as.Perm (as[d] :: as.eraseIdx d)
  | [], d, h => absurd h (Nat.not_lt_zero _)
  | a :: as, 0, h => List.Perm.refl _
  | a :: as, d + 1, h => (List.Perm.cons a (erase_perm as d (Nat.lt_of_succ_lt_succ h))).trans (List.Perm.swap _ _ _)
section
variable {s : Nat} {α : Type} {f : α → PV}
structure Tu (s L D : Nat) (as ds : List PV) (ℓ : Loc) (H : PH) : Prop where
  l : ℓ "left" = some (.obj L)
  d : ℓ "drawn" = some (.obj D)
  so : ℓ "source" = some (.obj s)
  fl : At H L (.list as)
  fd : At H D (.list ds)
  ld : L ≠ D
  sl : s ≠ L
  sd : s ≠ D
  src : SrcOk s H
theorem turn_loop {L D : Nat} {Q : KV} {K : KL} : ∀ (m n : Nat) (as ds : List α) (ℓ : Loc) (H : PH), as.length = m → m ≤ 20 → ds.length + m ≤ 50 → Tu s L D (as.map f) (ds.map f) ℓ H →
    (∀ H' bs, At H' D (.list ((ds ++ bs).map f)) → as.Perm bs → H.next ≤ H'.next → (∀ j, j < H.next → j ≠ s → j ≠ L → j ≠ D → H'.get j = H.get j) → SrcOk s H' → K ℓ H') →
    (lv (n + m + 21)).ex (pf 125).scope ℓ st125 Q K H
  | 0, n, as, ds, ℓ, H, hm, _, hd, I, hQ => by
    obtain rfl : as = [] := List.length_eq_zero_iff.mp hm
    refine whl_c (e_opt I.l (e_al rfl (e_ne rfl (eqNil (Nat.ne_of_lt I.fl.lt) I.fl.push .new) ?_)))
    exact hQ _ [] (by rw [List.append_nil]; exact I.fd.push) (List.Perm.refl _) (Nat.le_succ _) (fun j hj _ _ _ => if_neg (Nat.ne_of_lt hj)) (I.src.ge .push)
  | m + 1, n, as, ds, ℓ, H, hm, hm2, hd, I, hQ => by
    have he : eqP (H.push (.list [])) 40 (.obj L) (.obj H.next) = some false := by
      unfold eqP
      dsimp only
      rw [if_neg (Nat.ne_of_lt I.fl.lt), I.fl.push.get, At.new.get]
      dsimp only
      rw [if_neg (by rw [List.length_map, hm]; exact Nat.succ_ne_zero _)]
    have al : (as.map f).length ≤ 1000 := by rw [List.length_map]; omega
    have sL : L ≠ s := I.sl.symm
    have sD : D ≠ s := I.sd.symm
    refine whl_c (n := n + (m + 1)) (e_opt I.l (e_al rfl (e_ne rfl he (e_opt I.d (e_calL I.fd.push (.inl rfl) (e_opt I.l (e_calL I.fl.push (.inr rfl) (e_opt I.so (e_opt I.l (e_len I.fl.push al ?_)))))))))) 
    refine take_D (n := n + (m + 1) + 2) (top := (as.map f).length) (I.src.ge .push) (by rw [List.length_map]; omega) (by rw [List.length_map]; omega) fun d H2 hd2 dw hnx => ?_
    have fL2 := I.fl.push.dw dw sL
    have fD2 := I.fd.push.dw dw sD
    have hg : d < as.length := by rwa [List.length_map] at hd2
    refine e_pop fL2 al (w := f as[d]) (by rw [List.getElem?_map, List.getElem?_eq_getElem hg]; rfl) (e_append (fD2.setne I.ld.symm) (by rw [List.length_map]; omega) (e_none ?_))
    have e1 : ds.map f ++ [f as[d]] = (ds ++ [as[d]]).map f := by rw [List.map_append]; rfl
    rw [map_erase, e1]
    have nx : H.next + 1 ≤ H2.next := dw.nx
    refine turn_loop m n (as.eraseIdx d) (ds ++ [as[d]]) ℓ _ (by rw [List.length_eraseIdx, if_pos hg]; omega) (by omega) (by rw [List.length_append, List.length_singleton]; omega) ⟨I.l, I.d, I.so, fL2.set.setne I.ld, (fD2.setne I.ld.symm).set, I.ld, I.sl, I.sd, (dw.src.set I.sl).set I.sd⟩ fun H' bs q2 q3 q4 q5 q6 => ?_
    refine hQ H' (as[d] :: bs) (by rw [List.append_assoc] at q2; exact q2) ((erase_perm as d hg).trans (List.Perm.cons _ q3)) (Nat.le_trans (Nat.le_of_succ_le nx) q4) (fun j j1 j2 j3 j4 => ?_) q6
    rw [q5 j (Nat.lt_of_lt_of_le (Nat.lt_succ_of_lt j1) nx) j2 j3 j4]
    exact (if_neg j4).trans ((if_neg j3).trans ((dw.eq j (Nat.lt_succ_of_lt j1) j2).trans (if_neg (Nat.ne_of_lt j1))))
theorem turned_aux {n : Nat} {H : PH} {Q : KV} {things : PV} {as : List α} (hs : SrcOk s H) (hl : as.length ≤ 18)
    (hth : ∀ K : KV, K (.obj H.next) (H.push (.list (as.map f))) → TypeC "list" [things] K H)
    (hQ : ∀ H' t bs, as.Perm bs → Dw s H H' → H.next ≤ t → At H' t (.list (bs.map f)) → Q (.obj t) H') : CallC (lv (n + 40)) 922 [.obj s, things] Q H := by
  have hs1 := hs.lt
  refine turn_c (hth _ (e_al rfl (e_tp rfl (e_itemsT (e_unp2 ?_)))))
  have e : n + 39 = (n + 18 - as.length) + as.length + 21 := by omega
  show (lv (n + 39)).ex _ _ _ _ _ _
  rw [e]
  refine turn_loop (f := f) (s := s) (L := H.next) (D := H.next + 1) as.length (n + 18 - as.length) as [] _ _ rfl (by omega) (by rw [List.length_nil]; omega) ⟨rfl, rfl, rfl, At.new.push, .new, by omega, by omega, by omega, (hs.ge .push).ge .push⟩ fun H' bs q2 q3 q4 q5 q6 => e_opt rfl ?_
  have q4 : H.next + 1 + 1 ≤ H'.next := q4
  refine hQ H' (H.next + 1) bs q3 ⟨by omega, fun j j1 j2 => ?_, q6⟩ (Nat.le_succ _) q2
  refine (q5 j (by show j < H.next + 1 + 1; omega) j2 (by omega) (by omega)).trans ((if_neg (by show j ≠ H.next + 1; omega)).trans (if_neg (Nat.ne_of_lt j1)))
theorem turned_L {n i : Nat} {H : PH} {Q : KV} {as : List α} (hs : SrcOk s H) (hl : as.length ≤ 18) (hi : At H i (.list (as.map f)))
    (hQ : ∀ H' t bs, as.Perm bs → Dw s H H' → H.next ≤ t → At H' t (.list (bs.map f)) → Q (.obj t) H') : CallC (lv (n + 40)) 922 [.obj s, .obj i] Q H :=
  turned_aux hs hl (fun _ q => e_list hi (by rw [List.length_map]; omega) q) hQ
theorem turned_R {n k : Nat} {H : PH} {Q : KV} (hs : SrcOk s H) (hl : k ≤ 18)
    (hQ : ∀ H' t bs, (List.range k).Perm bs → Dw s H H' → H.next ≤ t → At H' t (natsV bs) → Q (.obj t) H') : CallC (lv (n + 40)) 922 [.obj s, .rng k] Q H :=
  turned_aux (as := List.range k) (f := fun i : Nat => PV.int i) hs (by rw [List.length_range]; exact hl) (fun _ q => e_listR (by omega) q) hQ
end
end Mine
namespace Mine
open PySem
noncomputable def Rule.pv : Rule → PV
  | .nn => .tup [.str "not null", .none]
  | .uq => .tup [.str "unique", .none]
  | .coll c => .tup [.str "collate", .str c]
  | .dflt v => .tup [.str "default", v]
  | .pk b => .tup [.str "primary key", .bool b]
noncomputable def dflts : List PV := [.int 5, .str "x y", .none, .bytes [122].toArray]
noncomputable def colls : List Str := ["nocase", "RTRIM", "binary"]
noncomputable def RuleV : Rule → Prop
  | .coll c => c ∈ colls
  | .dflt v => v ∈ dflts
  | _ => True
noncomputable def isUq : Rule → Bool
  | .uq => true
  | _ => false
noncomputable def isPk : Rule → Bool
  | .pk _ => true
  | _ => false
structure RsV (N pk : Nat) (rs : List Rule) : Prop where
  ok : ∀ r ∈ rs, RuleV r
  uq : rs.countP isUq ≤ 1
  pk : rs.countP isPk ≤ pk
  len : rs.length ≤ N
theorem RsV.add {N pk k : Nat} {rs : List Rule} {r : Rule} (h : RsV N pk rs) (hr : RuleV r) (hu : isUq r = false) (hk : (if isPk r then 1 else 0) + pk ≤ k) : RsV (N + 1) k (rs ++ [r]) := by
  refine ⟨fun x hx => ?_, ?_, ?_, ?_⟩
  · rcases List.mem_append.mp hx with hx | hx
    · exact h.ok x hx
    · rw [List.mem_singleton.mp hx]; exact hr
  · rw [List.countP_append, List.countP_cons, hu]; exact h.uq
  · have := h.pk
    rw [List.countP_append, List.countP_cons, List.countP_nil]; omega
  · rw [List.length_append, List.length_singleton]; exact Nat.succ_le_succ h.len
theorem RsV.le {N N' pk pk' : Nat} {rs : List Rule} (h : RsV N pk rs) (h1 : N ≤ N') (h2 : pk ≤ pk') : RsV N' pk' rs := ⟨h.ok, h.uq, Nat.le_trans h.pk h2, Nat.le_trans h.len h1⟩
theorem RsV.perm {N pk : Nat} {rs rs' : List Rule} (h : RsV N pk rs) (p : rs.Perm rs') : RsV N pk rs' := ⟨fun r hr => h.ok r (p.mem_iff.mpr hr), by rw [← p.countP_eq]; exact h.uq, by rw [← p.countP_eq]; exact h.pk, by rw [← p.length_eq]; exact h.len⟩
structure ColSt (s : Nat) (H : PH) (N pk r : Nat) (rs : List Rule) (H1 : PH) : Prop where
  dw : Dw s H H1
  lo : H.next ≤ r
  a : At H1 r (.list (rs.map Rule.pv))
  v : RsV N pk rs
structure NCol where
  ix : Nat
  rx : Nat
  dc : DC
structure NCol.at (lo : Nat) (H : PH) (c : NCol) : Prop where
  li : lo ≤ c.ix
  ai : At H c.ix (.list [.str c.dc.nm, c.dc.ty, .str c.dc.af, .obj c.rx])
  lr : lo ≤ c.rx
  ar : At H c.rx (.list (c.dc.rules.map Rule.pv))
noncomputable def tyV (p : PV × Str) : PV := .tup [p.1, .str p.2]
noncomputable def tysV : List PV := tys.map tyV
section
variable {Q : KV} {H : PH} {n s : Nat}
theorem typ_W (h : Q (.obj H.next) (H.push (.list tysV))) : CallC (lv (n + 8)) 901 [] Q H :=
  typ_c (e_tp rfl (e_tp rfl (e_tp rfl (e_tp rfl (e_tp rfl (e_tp rfl (e_tp rfl (e_tp rfl (e_tp rfl (e_al rfl h))))))))))
theorem ColSt.ne {N pk r rs H1} (h : ColSt s H N pk r rs H1) (hs : s < H.next) : r ≠ s := (Nat.ne_of_lt (Nat.lt_of_lt_of_le hs h.lo)).symm
theorem ColSt.app {N pk r rs H1 k} {x : Rule} (h : ColSt s H N pk r rs H1) (hs : s < H.next) (hr : RuleV x) (hu : isUq x = false) (hk : (if isPk x then 1 else 0) + pk ≤ k) : ColSt s H (N + 1) k r (rs ++ [x]) (H1.set r (.list (rs.map Rule.pv ++ [x.pv]))) :=
  ⟨h.dw.set hs h.lo, h.lo, by have := h.a.set (x := .list (rs.map Rule.pv ++ [x.pv])); rw [List.map_append]; exact this, h.v.add hr hu hk⟩
theorem ColSt.mono {N N' pk r rs H1 H2} (h : ColSt s H N pk r rs H1) (hs : s < H.next) (d : Dw s H1 H2) (l : N ≤ N') : ColSt s H N' pk r rs H2 := ⟨h.dw.trans d, h.lo, h.a.dw d (h.ne hs), h.v.le l (Nat.le_refl _)⟩
theorem ColSt.len {N pk r rs H1} (h : ColSt s H N pk r rs H1) (hN : N ≤ 10) : (rs.map Rule.pv).length < 1000 := by have := h.v.len; rw [List.length_map]; omega
theorem e_app {r : Lv} {a : PV} {j : Nat} {l : List PV} {w : PV} {K : KV} (g : At H j (.list l)) (n : l.length < 1000) (k : K .none (H.set j (.list (l ++ [w])))) : applyC r a "append" [w] (.lst j) K H := e_append g n k
theorem clm_W {nm : Str} {isP : Bool} (so : SrcOk s H) (hQ : ∀ H' c, Dw s H H' → NCol.at H.next H' c → c.dc.nm = nm → (c.dc.ty, c.dc.af) ∈ tys → RsV 10 (bif isP then 1 else 0) c.dc.rules → Q (.obj c.ix) H') :
    CallC (lv (n + 50)) 929 [.obj s, .str nm, .bool isP] Q H := by
  have hs := so.lt
  have k5 : ∀ {H1 r rs} (p : PV × Str), p ∈ tys → ColSt s H 5 (bif isP then 1 else 0) r rs H1 → clm3 n Q (.obj s) (.obj r) (.str nm) (tyV p) H1 := fun {H1 r rs} p hp C => by
    refine e_subsLT 0 rfl (Nat.le_of_ble_eq_true rfl) (by decide) rfl (e_subsLT 1 rfl (Nat.le_of_ble_eq_true rfl) (by decide) rfl (turned_L (n := n + 6) C.dw.src (as := rs) (f := Rule.pv) (by have := C.v.len; omega) C.a fun H3 t bs hpm dw3 g1 f3 => e_al rfl ?_))
    exact hQ _ ⟨H3.next, t, ⟨nm, p.1, p.2, bs⟩⟩ (C.dw.trans dw3).push ⟨(C.dw.trans dw3).nx, .new, Nat.le_trans C.dw.nx g1, f3.push⟩ rfl hp ((C.v.perm hpm).le (by decide) (Nat.le_refl _))
  have kx : ∀ {H1 r rs t}, ColSt s H 5 (bif isP then 1 else 0) r rs H1 → t ≠ s → At H1 t (.list tysV) → CallC (lv (n + 43)) 901 [] (builtK "len" (clm5 n Q (.obj s) (.obj t) (.obj r) (.str nm))) H1 := fun {H1 r rs t} C ht a => by
    refine typ_W (n := n + 35) (e_len .new (Nat.le_of_ble_eq_true rfl) (take_D (n := n + 31) (top := 9) (C.dw.src.ge .push) (by decide) (by decide) fun d H3 hd dw3 _ => ?_))
    have dw := (Dw.refl C.dw.src).push.trans dw3
    have hd' : d < tys.length := hd
    refine e_subs (k := d) (v := tyV tys[d]) (a.dw dw ht) (by omega) (by rw [tysV, List.getElem?_map, List.getElem?_eq_getElem hd']; rfl) (k5 _ (List.getElem_mem hd') (C.mono hs dw (Nat.le_refl _)))
  have k4 : ∀ {H1 r rs}, ColSt s H 5 (bif isP then 1 else 0) r rs H1 → CallC (lv (n + 46)) 901 [] (clm6 n Q (.bool isP) (.obj s) (.obj r) (.str nm)) H1 := fun {H1 r rs} C => by
    have C1 := C.mono hs ((Dw.refl C.dw.src).push (o := .list tysV)) (Nat.le_refl _)
    have ht : H1.next ≠ s := (Nat.ne_of_lt (Nat.lt_of_lt_of_le hs C.dw.nx)).symm
    refine typ_W (n := n + 38) (e_testB (c_b (fun hP => ?_) fun hP => kx C1 ht .new))
    refine take_D (n := n + 29) (top := 2) C1.dw.src (by decide) (by decide) fun d H2 hd dw2 _ => e_eq rfl (c_eq (fun h => ?_) fun h => ?_)
    · exact e_subsL 0 rfl (At.new.dw dw2 ht) (by decide) rfl (k5 _ (.head _) (C1.mono hs dw2 (Nat.le_refl _)))
    · exact kx (C1.mono hs dw2 (Nat.le_refl _)) ht (At.new.dw dw2 ht)
  have k3 : ∀ {H1 r rs}, ColSt s H 4 0 r rs H1 → testC (.bool isP) (CalleeC (.obj r) "append" (clm9 n Q (.obj s) (.obj r) (.bool isP) (.str nm))) (CallC (lv (n + 46)) 901 [] (clm6 n Q (.bool isP) (.obj s) (.obj r) (.str nm))) H1 := fun {H1 r rs} C => by
    refine e_testB (c_b (fun hP => ?_) fun hP => k4 ⟨C.dw, C.lo, C.a, C.v.le (by decide) (Nat.zero_le _)⟩)
    refine e_calL C.a (.inl rfl) (take_D (n := n + 29) (top := 3) C.dw.src (by decide) (by decide) fun d H2 hd dw2 _ => f_eq rfl (e_tp rfl ?_))
    have C2 := C.mono hs dw2 (Nat.le_refl _)
    exact e_append C2.a (C2.len (by decide)) (e_none (k4 (C2.app (x := .pk _) hs trivial rfl (by rw [hP]; exact Nat.le_refl _))))
  have k2 : ∀ {H1 r rs}, ColSt s H 3 0 r rs H1 → CallC (lv (n + 46)) 915 [.obj s, .int 4] (cmpTK .Eq (.int 0) (CalleeC (.obj r) "append" (clm14 n Q (.obj s) (.obj r) (.bool isP) (.str nm))) (testC (.bool isP) (CalleeC (.obj r) "append" (clm9 n Q (.obj s) (.obj r) (.bool isP) (.str nm))) (CallC (lv (n + 46)) 901 [] (clm6 n Q (.bool isP) (.obj s) (.obj r) (.str nm))))) H1 := fun {H1 r rs} C => by
    refine take_D (n := n + 32) (top := 4) C.dw.src (by decide) (by decide) fun d H2 hd dw2 _ => e_eq rfl (c_eq (fun _ => ?_) fun _ => k3 (C.mono hs dw2 (by decide)))
    have C2 := C.mono hs dw2 (Nat.le_refl _)
    have C3 := C2.mono hs ((Dw.refl C2.dw.src).push (o := .list dflts)) (Nat.le_refl _)
    have ht : H2.next ≠ s := (Nat.ne_of_lt (Nat.lt_of_lt_of_le hs C2.dw.nx)).symm
    refine e_calL C2.a (.inl rfl) (e_al rfl (take_D (n := n + 29) (top := 4) C3.dw.src (by decide) (by decide) fun e H3 he dw3 _ => ?_))
    have he' : e < dflts.length := he
    have C4 := C3.mono hs dw3 (Nat.le_refl _)
    refine e_subs (k := e) (v := dflts[e]) (At.new.dw dw3 ht) (by omega) (List.getElem?_eq_getElem he') (e_tp rfl (e_append C4.a (C4.len (by decide)) (e_none (k3 (C4.app (x := .dflt _) hs (List.getElem_mem he') rfl (Nat.le_refl _))))))
  have k1 : ∀ {H1 r rs}, ColSt s H 2 0 r rs H1 → clm20 n Q (.obj s) (.bool isP) (.str nm) (.obj r) H1 := fun {H1 r rs} C => by
    refine take_D (n := n + 32) (top := 3) C.dw.src (by decide) (by decide) fun d H2 hd dw2 _ => e_eq rfl (c_eq (fun _ => ?_) fun _ => k2 (C.mono hs dw2 (by decide)))
    have C2 := C.mono hs dw2 (Nat.le_refl _)
    have C3 := C2.mono hs ((Dw.refl C2.dw.src).push (o := .list (colls.map .str))) (Nat.le_refl _)
    have ht : H2.next ≠ s := (Nat.ne_of_lt (Nat.lt_of_lt_of_le hs C2.dw.nx)).symm
    refine e_calL C2.a (.inl rfl) (e_al rfl (take_D (n := n + 29) (top := 3) C3.dw.src (by decide) (by decide) fun e H3 he dw3 _ => ?_))
    have he' : e < colls.length := he
    have C4 := C3.mono hs dw3 (Nat.le_refl _)
    refine e_subs (k := e) (v := .str colls[e]) (At.new.dw dw3 ht) (by omega) ((List.getElem?_map ..).trans (by rw [List.getElem?_eq_getElem he']; rfl) : (colls.map PV.str)[e]? = _) (e_tp rfl (e_append C4.a (C4.len (by decide)) (e_none (k2 (C4.app (x := .coll _) hs (List.getElem_mem he') rfl (Nat.le_refl _))))))
  have h0 : SrcOk s (H.push (.list [Rule.nn.pv])) := so.ge .push
  have n0 : H.next ≠ s := (Nat.ne_of_lt hs).symm
  refine clm_c (e_tp rfl (e_al rfl (take_D (n := n + 30) (top := 4) h0 (by decide) (by decide) fun d H1 hd dw hnx => ?_)))
  have e1 := (by decide : ∀ d, d < 4 → ((d : Nat) : Int).fdiv 3 = ((d / 3 : Nat) : Int)) d hd
  have dwA := (Dw.refl so).push.trans dw
  refine e_div ⟨by decide, by decide⟩ (e_mulL (At.new.dw dw n0) ⟨Nat.le_of_ble_eq_true rfl, by omega, by omega⟩ (e_tp rfl (e_al rfl (take_D (n := n + 30) (top := 3) ((dw.src.ge .push).ge .push) (by decide) (by decide) fun e H2 he dw2 hnx2 => ?_))))
  have e2 := (by decide : ∀ d, d < 3 → ((d : Nat) : Int).fdiv 2 = ((d / 2 : Nat) : Int)) e he
  have l1 := dwA.nx
  have n1 : H1.next ≠ s := by omega
  have n2 : H1.next + 1 ≠ s := by omega
  have dwB := dwA.push.push.trans dw2
  refine e_div ⟨by decide, by decide⟩ (e_mulL (At.new.dw dw2 n2) ⟨Nat.le_of_ble_eq_true rfl, by omega, by omega⟩ (e_addL (At.new.push.dw dw2 n1).push .new ?_ (k1 (rs := List.replicate (d / 3) Rule.nn ++ List.replicate (e / 2) Rule.uq) ⟨dwB.push.push, Nat.le_trans dwB.nx (Nat.le_succ _), ?_, ?_⟩)))
  · rw [e1, e2]
    simp
    omega
  · refine At.new.ty ?_
    rw [e1, e2, Int.toNat_natCast, Int.toNat_natCast, List.flatten_replicate_singleton, List.flatten_replicate_singleton, List.map_append, List.map_replicate, List.map_replicate]
    rfl
  · refine ⟨fun r hr => ?_, ?_, ?_, ?_⟩
    · simp only [List.mem_append, List.mem_replicate] at hr
      rcases hr with ⟨_, rfl⟩ | ⟨_, rfl⟩ <;> trivial
    · simp [List.countP_append, List.countP_replicate, isUq]; omega
    · simp [List.countP_append, List.countP_replicate, isPk]
    · simp; omega
end
end Mine
namespace Mine
open PySem
structure NRule where
  rx : Nat
  dr : DR
noncomputable def wordPV (b : Bool) : PV := .str (kindS b)
noncomputable def NRule.pv (r : NRule) : PV := .tup [wordPV r.dr.pk, .obj r.rx]
structure NRule.at (lo : Nat) (H : PH) (r : NRule) : Prop where
  l : lo ≤ r.rx
  a : At H r.rx (rowsV r.dr.rows)
structure ND where
  ix : Nat
  cx : Nat
  kx : Nat
  nm : Str
  cols : List NCol
  rules : List NRule
structure ND.at (lo : Nat) (H : PH) (D : ND) : Prop where
  li : lo ≤ D.ix
  ai : At H D.ix (.list [.str D.nm, .obj D.cx, .obj D.kx])
  lc : lo ≤ D.cx
  ac : At H D.cx (.list (D.cols.map fun c => .obj c.ix))
  lk : lo ≤ D.kx
  ak : At H D.kx (.list (D.rules.map NRule.pv))
  co : ∀ c ∈ D.cols, c.at lo H
  ru : ∀ r ∈ D.rules, r.at lo H
noncomputable def cnames : List Str := ["a", "b", "Cc", "d"]
noncomputable def rowV (m : Nat) (x : Row) : Prop := x.pl < m ∧ (x.co = none ∨ x.co = some "NoCase")
noncomputable def drV (m : Nat) (r : DR) : Prop := r.rows ≠ [] ∧ r.rows.length ≤ 4 ∧ ∀ x ∈ r.rows, rowV m x
noncomputable def pks (c : DC) : Nat := c.rules.countP isPk
structure DV (nm : Str) (cols : List DC) (rules : List DR) : Prop where
  nm : nm = "t" ∨ nm = "Things"
  names : cols.map (·.nm) = cnames.take cols.length
  pos : 1 ≤ cols.length
  le : cols.length ≤ 4
  cty : ∀ c ∈ cols, (c.ty, c.af) ∈ tys ∧ RsV 10 1 c.rules
  rul : ∀ r ∈ rules, drV cols.length r
  pk : (cols.map pks).sum + rules.countP (·.pk) ≤ 1
  len : rules.length ≤ 3
theorem ne_lo {s lo i : Nat} (hs : s < lo) (h : lo ≤ i) : i ≠ s := (Nat.ne_of_lt (Nat.lt_of_lt_of_le hs h)).symm
theorem NCol.at.mono {lo s : Nat} {H H' : PH} {c : NCol} (h : NCol.at lo H c) (d : Dw s H H') (hs : s < lo) : NCol.at lo H' c := ⟨h.li, h.ai.dw d (ne_lo hs h.li), h.lr, h.ar.dw d (ne_lo hs h.lr)⟩
theorem NRule.at.mono {lo s : Nat} {H H' : PH} {c : NRule} (h : NRule.at lo H c) (d : Dw s H H') (hs : s < lo) : NRule.at lo H' c := ⟨h.l, h.a.dw d (ne_lo hs h.l)⟩
structure DrA (s : Nat) (H : PH) (wh i : Nat) (cs : List NCol) (a : List PV) (ℓ : Loc) (H' : PH) : Prop where
  e : a = cs.map fun c => .obj c.ix
  l : cs.length = i
  c : ∀ c ∈ cs, c.at H.next H' ∧ (c.dc.ty, c.dc.af) ∈ tys ∧ RsV 10 1 c.dc.rules
  n : cs.map (·.dc.nm) = cnames.take i
  p : (cs.map fun c => pks c.dc).sum ≤ if wh < i then 1 else 0
  dw : Dw s H H'
  src : ℓ "source" = some (.obj s)
  wh : ℓ "where" = some (.int wh)
structure DrB (s : Nat) (H : PH) (m k kL wL : Nat) (L : List PV) (cv : PV) (q : List Bool) (rs : List NRule) (ℓ : Loc) (H' : PH) : Prop where
  w : At H' wL (.list L)
  len : rs.length + q.length ≤ 3
  cnt : rs.countP (fun r => r.dr.pk) + q.countP id ≤ k
  ru : ∀ r ∈ rs, r.at H.next H' ∧ drV m r.dr ∧ r.rx ≠ kL
  ak : At H' kL (.list (rs.map NRule.pv))
  dw : Dw s H H'
  src : ℓ "source" = some (.obj s)
  many : ℓ "many" = some (.int m)
  rul : ℓ "rules" = some (.obj kL)
  col : ℓ "columns" = some cv
structure DrC (s : Nat) (H : PH) (m tL pL : Nat) (P : List PV) (i : Nat) (rows : List Row) (a : List PV) (ℓ : Loc) (H' : PH) : Prop where
  e : a = rows.map Row.pv
  l : rows.length = i
  v : ∀ x ∈ rows, rowV m x
  t : At H' tL (.list [.none, .none, .str "NoCase"])
  p : At H' pL (.list P)
  dw : Dw s H H'
  src : ℓ "source" = some (.obj s)
  told : ℓ "told" = some (.obj tL)
section
variable {Q : KV} {H : PH} {n s m wh : Nat} {cv : PV}
theorem drw_L {K wL : Nat} {q0 : List Bool} {ℓ0 : Loc} {H0 : PH} (so : SrcOk s H) (m1 : 1 ≤ m) (m4 : m ≤ 4) (lw : H.next ≤ wL) (kw : wL ≠ H.next)
    (hQ : ∀ H' ix kx nm (bs : List NRule), Dw s H H' → At H' ix (.list [.str nm, cv, .obj kx]) → H.next ≤ ix → H.next ≤ kx → At H' kx (.list (bs.map NRule.pv)) → (nm = "t" ∨ nm = "Things") → (∀ r ∈ bs, NRule.at H.next H' r ∧ drV m r.dr) → bs.length ≤ 3 → bs.countP (fun r => r.dr.pk) ≤ K → Q (.obj ix) H')
    (B0 : DrB s H m K H.next wL (q0.map wordPV) cv q0 [] ℓ0 H0) : loopF (.lst wL (q0.map wordPV)) (drw28 n) (q0.map wordPV) ℓ0 (drw37 n Q) H0 := by
  have hs := so.lt
  have ks : H.next ≠ s := (Nat.ne_of_lt hs).symm
  have ws : wL ≠ s := ne_lo hs lw
  refine loopF_r (fun r ℓ H' => ∃ q rs, r = q.map wordPV ∧ DrB s H m K H.next wL (q0.map wordPV) cv q rs ℓ H') (fun r ℓ H' ⟨_, _, _, B⟩ => B.w.get) ?_ ?_ ⟨q0, [], rfl, B0⟩
  · rintro v r ℓ H3 k ⟨qq, rs, hr, B⟩ hk
    obtain ⟨b, q1, rfl, rfl, rfl⟩ := map_cons_inv hr
    refine e_opt B.src (e_opt B.many (e_range (by omega) (turned_R (n := n + 15) (k := m) B.dw.src (by omega) fun H4 t bs hbs dw4 lt4 at4 => ?_)))
    have hbl : bs.length = m := by rw [← hbs.length_eq, List.length_range]
    have ts : t ≠ s := ne_lo hs (Nat.le_trans B.dw.nx lt4)
    refine e_opt B.src (e_opt B.many (take_D (n := n + 40) (top := m) dw4.src (by omega) (by omega) fun d H5 hd dw5 _ => e_add ?_))
    have dwA := dw4.trans dw5
    have e1 : (1 : Int) + (d : Int) = ((d + 1 : Nat) : Int) := by omega
    rw [e1]
    refine e_slice (at4.dw dw5 ts) (by rw [List.length_map]; omega) (e_al rfl (e_opt B.rul (e_calL (B.ak.dw dwA ks).push.push (.inl rfl) (e_srcL At.new.push (by rw [List.length_take, List.length_map]; omega) ?_))))
    have P : ∀ v ∈ (bs.map fun i : Nat => PV.int i).take (d + 1), ∃ p, p < m ∧ v = .int (p : Nat) := fun v hv => by
      obtain ⟨p, hp, rfl⟩ := List.mem_map.mp (List.mem_of_mem_take hv)
      exact ⟨p, List.mem_range.mp (hbs.mem_iff.mpr hp), rfl⟩
    have Pl : ((bs.map fun i : Nat => PV.int i).take (d + 1)).length = d + 1 := by rw [List.length_take, List.length_map]; omega
    generalize ((bs.map fun i : Nat => PV.int i).take (d + 1)) = PL at P Pl ⊢
    have dwP := dwA.push.push (o := .list [.none, .none, .str "NoCase"]) (H1 := H5.push (.list PL))
    have at_ : At ((H5.push (.list PL)).push (.list [.none, .none, .str "NoCase"])) (H5.push (.list PL)).next (.list [.none, .none, .str "NoCase"]) := .new
    have ap : At ((H5.push (.list PL)).push (.list [.none, .none, .str "NoCase"])) H5.next (.list PL) := At.new.push
    have nx5 := (B.dw.trans dwA).nx
    have ts2 : (H5.push (.list PL)).next ≠ s := ne_lo hs (Nat.le_succ_of_le nx5)
    have ps2 : H5.next ≠ s := ne_lo hs nx5
    generalize (H5.push (.list PL)).push (.list [.none, .none, .str "NoCase"]) = H6 at dwP at_ ap ⊢
    refine loopC_i (fun i a ℓ1 H7 => ∃ rows, DrC s H6 m (H5.push (.list PL)).next H5.next PL i rows a ℓ1 H7) (fun i a ℓ1 H7 ⟨_, C⟩ => C.p.get) ?_ ?_ ⟨[], rfl, rfl, (fun _ h => nomatch h), at_, ap, Dw.refl dwP.src, B.src, rfl⟩
    · rintro i v a ℓ1 H7 kc hv ⟨rows, C⟩ hk
      obtain ⟨p, hp, rfl⟩ := P v (List.mem_of_getElem? hv)
      refine e_opt C.told (e_opt C.src (take_D (n := n + 37) (top := 3) C.dw.src (by decide) (by decide) fun d1 H8 hd1 dw8 _ => ?_))
      obtain ⟨co, hco, hc1⟩ : ∃ co : Option Str, (co = none ∨ co = some "NoCase") ∧ [PV.none, PV.none, PV.str "NoCase"][d1]? = some (optS co) := by
        rcases d1 with _ | _ | _ | d1
        · exact ⟨none, .inl rfl, rfl⟩
        · exact ⟨none, .inl rfl, rfl⟩
        · exact ⟨some "NoCase", .inr rfl, rfl⟩
        · omega
      refine e_subs (C.t.dw dw8 ts2) (by omega) hc1 (e_opt C.src (take_D (n := n + 37) (top := 3) dw8.src (by decide) (by decide) fun d2 H9 hd2 dw9 _ => f_eq rfl (e_tp rfl (hk _ _ _ ⟨rows ++ [⟨p, co, (d2 : Int) == 0⟩], ?_, ?_, fun x hx => ?_, (C.t.dw dw8 ts2).dw dw9 ts2, (C.p.dw dw8 ps2).dw dw9 ps2, C.dw.trans (dw8.trans dw9), C.src, C.told⟩))))
      · rw [C.e, List.map_append]; rfl
      · rw [List.length_append, C.l]; rfl
      · rcases List.mem_append.mp hx with h | h
        · exact C.v x h
        · rw [List.mem_singleton.mp h]; exact ⟨hp, hco⟩
    · rintro b1 ℓ1 H7 ⟨rows, C⟩
      have hrl : rows.length = d + 1 := C.l.trans Pl
      rw [C.e]
      have dwQ := dwP.trans C.dw
      have hl := B.len
      rw [List.length_cons] at hl
      refine e_alloc (by rw [List.length_map]; omega) (e_tp rfl (e_append (B.ak.dw dwQ ks).push (by rw [List.length_map]; omega) (e_none (hk _ _ ⟨q1, rs ++ [⟨H7.next, ⟨b, rows⟩⟩], rfl, ?_⟩))))
      have dwR := B.dw.trans dwQ
      have hcnt := B.cnt
      refine ⟨(B.w.dw dwQ ws).push.setne kw, by rw [List.length_append, List.length_singleton]; omega, ?_, fun x hx => ?_, ?_, dwR.push.set hs (Nat.le_refl _), B.src, B.many, B.rul, B.col⟩
      · rw [List.countP_cons] at hcnt
        rw [List.countP_append, List.countP_cons, List.countP_nil]
        cases b <;> simp at hcnt ⊢ <;> omega
      · rcases List.mem_append.mp hx with h | h
        · obtain ⟨a1, a2, a3⟩ := B.ru x h
          have a1' := a1.mono dwQ hs
          exact ⟨⟨a1'.l, a1'.a.push.setne a3⟩, a2, a3⟩
        · rw [List.mem_singleton.mp h]
          have lo : H.next < H7.next := Nat.lt_of_lt_of_le B.ak.lt dwQ.nx
          exact ⟨⟨Nat.le_of_lt lo, At.new.setne (Nat.ne_of_gt lo)⟩, ⟨(fun e : rows = [] => by rw [e] at hrl; exact nomatch hrl), by show rows.length ≤ 4; omega, C.v⟩, Nat.ne_of_gt lo⟩
      · rw [List.map_append]
        exact (B.ak.dw dwQ ks).push.set
  · rintro ℓ H3 ⟨q, rs, hr, B⟩
    cases map_nil_inv hr
    have nx := B.dw.nx
    have hl : rs.length ≤ 3 := B.len
    refine e_al rfl (e_opt B.src (take_D (n := n + 41) (top := 2) (B.dw.src.ge .push) (by decide) (by decide) fun d H4 hd dw4 _ => ?_))
    have dwA := (Dw.refl B.dw.src).push.trans dw4
    obtain ⟨nm, hnm, hn1⟩ : ∃ nm : Str, (nm = "t" ∨ nm = "Things") ∧ [PV.str "t", PV.str "Things"][d]? = some (.str nm) := by
      rcases d with _ | _ | d
      · exact ⟨_, .inl rfl, rfl⟩
      · exact ⟨_, .inr rfl, rfl⟩
      · omega
    refine e_subs (At.new.dw dw4 (ne_lo hs nx)) (by omega) hn1 (e_opt B.col (e_opt B.src (e_opt B.rul (turned_L (n := n + 16) (as := rs) (f := NRule.pv) dw4.src (by omega) (B.ak.dw dwA ks) fun H5 t bs hbs dw5 lt5 at5 => e_al rfl ?_))))
    have dwB := dwA.trans dw5
    have dwC := B.dw.trans dwB
    refine hQ _ _ t nm bs dwC.push .new dwC.nx (Nat.le_trans (B.dw.trans dwA).nx lt5) at5.push hnm (fun r hr => ?_) (by rw [← hbs.length_eq]; exact hl) (by rw [← hbs.countP_eq]; exact B.cnt)
    obtain ⟨a1, a2, _⟩ := B.ru r (hbs.mem_iff.mpr hr)
    exact ⟨a1.mono dwB.push hs, a2⟩
theorem drw_R (so : SrcOk s H) (m1 : 1 ≤ m) (m4 : m ≤ 4) {K : Nat} (hK : K = if m ≤ wh ∧ wh < 2 * m then 1 else 0)
    (hQ : ∀ H' ix kx nm (bs : List NRule), Dw s H H' → At H' ix (.list [.str nm, cv, .obj kx]) → H.next ≤ ix → H.next ≤ kx → At H' kx (.list (bs.map NRule.pv)) → (nm = "t" ∨ nm = "Things") → (∀ r ∈ bs, NRule.at H.next H' r ∧ drV m r.dr) → bs.length ≤ 3 → bs.countP (fun r => r.dr.pk) ≤ K → Q (.obj ix) H') :
    drw48 n Q (.obj s) (.int m) (.int wh) cv H := by
  have hs := so.lt
  have ks : H.next ≠ s := (Nat.ne_of_lt hs).symm
  have k1s : H.next + 1 ≠ s := by omega
  refine e_al rfl (e_al rfl (take_D (n := n + 41) (top := 3) ((so.ge .push).ge .push) (by decide) (by decide) fun d H2 hd dw2 _ => ?_))
  have dwB := (Dw.refl so).push.push.trans dw2
  have nx := dwB.nx
  have ak2 : At H2 H.next (.list []) := At.new.push.dw dw2 ks
  have au2 : At H2 (H.next + 1) (.list [wordPV false]) := At.new.dw dw2 k1s
  have kW : ∀ r : Bool, (bif r then 1 else 0) ≤ K → drw40 n Q (.obj (H2.push (.list (List.replicate (d : Int).toNat [wordPV false]).flatten)).next) (.obj H2.next) (.obj s) (.int m) (.int wh) cv (.obj H.next) (.int (if r then 1 else 0)) ((H2.push (.list (List.replicate (d : Int).toNat [wordPV false]).flatten)).push (.list [wordPV true])) := fun r hr => by
    have hr1 : (0 : Int) ≤ (if r then 1 else 0) ∧ (if r then 1 else 0) ≤ (10 : Int) := by cases r <;> decide
    refine e_mulL .new ⟨Nat.le_of_ble_eq_true rfl, hr1⟩ (e_addL At.new.push.push .new ?_ ?_)
    · rw [Int.toNat_natCast, List.flatten_replicate_singleton, List.flatten_replicate_singleton, List.length_replicate, List.length_replicate]
      cases r <;> simp <;> omega
    have eL : (List.replicate (d : Int).toNat [wordPV false]).flatten ++ (List.replicate (if r then 1 else 0 : Int).toNat [wordPV true]).flatten = (List.replicate d false ++ List.replicate (bif r then 1 else 0) true).map wordPV := by
      rw [Int.toNat_natCast, List.flatten_replicate_singleton, List.flatten_replicate_singleton, List.map_append, List.map_replicate, List.map_replicate]
      cases r <;> rfl
    rw [eL]
    have dwW := dwB.push.push.push.push (o := .list ((List.replicate d false ++ List.replicate (bif r then 1 else 0) true).map wordPV)) (H1 := ((H2.push (.list (List.replicate (d : Int).toNat [wordPV false]).flatten)).push (.list [wordPV true])).push (.list (List.replicate (if r then 1 else 0 : Int).toNat [wordPV true]).flatten))
    have ql : (List.replicate d false ++ List.replicate (bif r then 1 else 0) true).length ≤ 3 := by
      have : K ≤ 1 := by rw [hK]; split <;> decide
      rw [List.length_append, List.length_replicate, List.length_replicate]; omega
    have qc : (List.replicate d false ++ List.replicate (bif r then 1 else 0) true).countP id ≤ K := by
      rw [List.countP_append, List.countP_replicate, List.countP_replicate]; simpa using hr
    have ak3 := ak2.push.push.push.push (x := .list ((List.replicate d false ++ List.replicate (bif r then 1 else 0) true).map wordPV)) (H := ((H2.push (.list (List.replicate (d : Int).toNat [wordPV false]).flatten)).push (.list [wordPV true])).push (.list (List.replicate (if r then 1 else 0 : Int).toNat [wordPV true]).flatten))
    have wl : (((H2.push (.list (List.replicate (d : Int).toNat [wordPV false]).flatten)).push (.list [wordPV true])).push (.list (List.replicate (if r then 1 else 0 : Int).toNat [wordPV true]).flatten)).next = H2.next + 1 + 1 + 1 := rfl
    have aw := At.new (H := ((H2.push (.list (List.replicate (d : Int).toNat [wordPV false]).flatten)).push (.list [wordPV true])).push (.list (List.replicate (if r then 1 else 0 : Int).toNat [wordPV true]).flatten)) (o := .list ((List.replicate d false ++ List.replicate (bif r then 1 else 0) true).map wordPV))
    generalize ((H2.push (.list (List.replicate (d : Int).toNat [wordPV false]).flatten)).push (.list [wordPV true])).push (.list (List.replicate (if r then 1 else 0 : Int).toNat [wordPV true]).flatten) = H3 at dwW ak3 wl aw ⊢
    generalize (List.replicate d false ++ List.replicate (bif r then 1 else 0) true) = q at dwW ak3 aw ql qc ⊢
    have lw : H.next ≤ H3.next := by omega
    have kw : H3.next ≠ H.next := by omega
    generalize H3.next = wL at aw lw kw ⊢
    refine e_srcL aw (by rw [List.length_map]; omega) ?_
    exact drw_L so m1 m4 lw kw hQ ⟨aw, by rw [List.length_nil, Nat.zero_add]; exact ql, by rw [List.countP_nil, Nat.zero_add]; exact qc, (fun _ h => nomatch h), ak3, dwW, rfl, rfl, rfl, rfl⟩
  refine e_mulL au2 ⟨Nat.le_of_ble_eq_true rfl, by omega, by omega⟩ (e_al rfl (f_le ?_))
  by_cases c1 : m ≤ wh
  · refine e_testYes (by omega) (e_mul ⟨by decide, by decide⟩ (f_lt (e_int ?_)))
    refine kW _ ?_
    rw [hK]
    by_cases c2 : (wh : Int) < 2 * (m : Int)
    · rw [decide_eq_true c2, if_pos ⟨c1, by omega⟩]; exact Nat.le_refl _
    · rw [decide_eq_false c2]; exact Nat.zero_le _
  · refine e_testNo (by omega) (e_int ?_)
    rw [decide_eq_false (by omega)]
    exact kW false (Nat.zero_le _)
theorem bif_le {b : Bool} : (bif b then 1 else 0) ≤ 1 := by cases b <;> decide
theorem drw_W (so : SrcOk s H) (hQ : ∀ H' D, Dw s H H' → ND.at H.next H' D → DV D.nm (D.cols.map (·.dc)) (D.rules.map (·.dr)) → Q (.obj D.ix) H') : CallC (lv (n + 60)) 934 [.obj s] Q H := by
  have hs := so.lt
  refine drw_c (take_D (n := n + 42) (top := 4) so (by decide) (by decide) fun d H1 hd dw1 _ => e_add ?_)
  have e1 : (1 : Int) + (d : Int) = ((d + 1 : Nat) : Int) := by omega
  rw [e1]
  obtain ⟨m, hm⟩ : ∃ m, m = d + 1 := ⟨_, rfl⟩
  rw [← hm]
  have m1 : 1 ≤ m := by omega
  have m4 : m ≤ 4 := by omega
  clear e1 hm hd d
  refine e_mul ⟨by decide, by decide⟩ (e_add ?_)
  have e2 : (2 : Int) * (m : Int) + 2 = ((2 * m + 2 : Nat) : Int) := by omega
  rw [e2]
  refine take_D (n := n + 43) (top := 2 * m + 2) dw1.src (by omega) (by omega) fun wh H2 hw dw2 _ => e_range (by omega) (e_srcR (by omega) ?_)
  have dwA := dw1.trans dw2
  refine loopC_i (fun i a ℓ H' => ∃ cs, DrA s H wh i cs a ℓ H') (fun _ _ _ _ _ => True.intro) ?_ ?_ ⟨[], rfl, rfl, (fun _ h => nomatch h), rfl, Nat.zero_le _, dwA, rfl, rfl⟩
  · rintro i v a ℓ1 H3 k hv ⟨cs, I⟩ hk
    obtain ⟨hi, rfl⟩ := natsL_get hv
    have hi4 : i < cnames.length := Nat.lt_of_lt_of_le hi m4
    refine e_opt I.src (e_al rfl (e_subs (k := i) (v := .str cnames[i]) At.new (by omega) ((List.getElem?_map ..).trans (by rw [List.getElem?_eq_getElem hi4]; rfl) : (cnames.map PV.str)[i]? = _) (e_opt I.wh (f_eq rfl (clm_W (n := n + 6) (nm := cnames[i]) (I.dw.src.ge .push) fun H4 c dw4 hc4 hcn hct hcr => hk _ _ _ ⟨cs ++ [c], ?_⟩)))))
    have dwB := (Dw.refl I.dw.src).push.trans dw4
    refine ⟨by rw [I.e, List.map_append]; rfl, by rw [List.length_append, I.l]; rfl, fun c' hc' => ?_, ?_, ?_, I.dw.trans dwB, I.src, I.wh⟩
    · rcases List.mem_append.mp hc' with h | h
      · exact ⟨(I.c c' h).1.mono dwB hs, (I.c c' h).2⟩
      · rw [List.mem_singleton.mp h]
        have := I.dw.nx
        exact ⟨⟨Nat.le_trans (Nat.le_succ_of_le this) hc4.li, hc4.ai, Nat.le_trans (Nat.le_succ_of_le this) hc4.lr, hc4.ar⟩, hct, hcr.le (Nat.le_refl _) bif_le⟩
    · rw [List.map_append, I.n, List.take_add_one, List.getElem?_eq_getElem hi4, ← hcn]
      rfl
    · have h1 := hcr.pk
      have h2 := I.p
      rw [List.map_append, List.sum_append, List.map_cons, List.map_nil, List.sum_cons, List.sum_nil, Nat.add_zero]
      have e : pks c.dc = c.dc.rules.countP isPk := rfl
      rw [e]
      by_cases hiw : (i : Int) = (wh : Int)
      · have hw : i = wh := Int.ofNat_inj.mp hiw
        rw [if_neg (by omega)] at h2
        rw [if_pos (by omega)]
        have := Nat.le_trans h1 bif_le
        omega
      · have hb : ((i : Int) == (wh : Int)) = false := beq_eq_false_iff_ne.mpr hiw
        rw [hb] at h1
        have h1 : c.dc.rules.countP isPk ≤ 0 := h1
        have hn : i ≠ wh := fun e => hiw (congrArg _ e)
        by_cases h : wh < i
        · rw [if_pos h] at h2
          rw [if_pos (by omega)]; omega
        · rw [if_neg h] at h2
          rw [if_neg (by omega)]; omega
  · rintro b ℓ1 H3 ⟨cs, I⟩
    have hl := I.l
    have hn := I.n
    have hp := I.p
    rw [natsL_len] at hl hn hp
    rw [I.e]
    refine e_alloc (by rw [List.length_map]; omega) ?_
    have dwC := I.dw.push (o := .list (cs.map fun c => .obj c.ix))
    have aC : At (H3.push (.list (cs.map fun c => .obj c.ix))) H3.next (.list (cs.map fun c => .obj c.ix)) := .new
    have nx := I.dw.nx
    have cC : ∀ c ∈ cs, c.at H.next (H3.push (.list (cs.map fun c => .obj c.ix))) := fun c hc => (I.c c hc).1.mono (Dw.refl I.dw.src).push hs
    generalize H3.push (.list (cs.map fun c => .obj c.ix)) = H4 at dwC aC cC ⊢
    refine drw_R dwC.src m1 m4 rfl fun H5 ix kx nm bs dw5 ai li lk ak hnm hbs bl bc => ?_
    have nx4 := dwC.nx
    refine hQ H5 ⟨ix, H3.next, kx, nm, cs, bs⟩ (dwC.trans dw5) ⟨Nat.le_trans nx4 li, ai, nx, aC.dw dw5 (ne_lo hs nx), Nat.le_trans nx4 lk, ak, fun c hc => (cC c hc).mono dw5 hs, fun r hr => ⟨Nat.le_trans nx4 (hbs r hr).1.l, (hbs r hr).1.a⟩⟩ ⟨hnm, ?_, ?_, ?_, fun c hc => ?_, fun r hr => ?_, ?_, ?_⟩
    · rw [List.map_map, List.length_map, hl]
      exact hn
    · rw [List.length_map, hl]; exact m1
    · rw [List.length_map, hl]; exact m4
    · obtain ⟨c', hc', rfl⟩ := List.mem_map.mp hc
      exact (I.c c' hc').2
    · obtain ⟨r', hr', rfl⟩ := List.mem_map.mp hr
      rw [List.length_map, hl]
      exact (hbs r' hr').2
    · have e1 : ((cs.map (·.dc)).map pks).sum ≤ if wh < m then 1 else 0 := by rw [List.map_map]; exact hp
      have e2 : (bs.map (·.dr)).countP (·.pk) ≤ if m ≤ wh ∧ wh < 2 * m then 1 else 0 := by rw [List.countP_map]; exact bc
      show ((cs.map (·.dc)).map pks).sum + (bs.map (·.dr)).countP (·.pk) ≤ 1
      split at e1 <;> split at e2 <;> omega
    · rw [List.length_map]; exact bl
end
end Mine
namespace Mine
open PySem
structure Gx (s : Nat) (H H' : PH) : Prop where
  le : H.next ≤ H'.next
  eq : ∀ j, j < H.next → j ≠ s → H'.get j = H.get j
theorem At.gx {s i : Nat} {H H' : PH} {o : PO} (g : Gx s H H') (h : At H i o) (n : i ≠ s) : At H' i o := ⟨Nat.lt_of_lt_of_le h.lt g.le, (g.eq i h.lt n).trans h.get⟩
theorem Gx.setAt {s : Nat} {H H1 : PH} {o : PO} (g : Ge H H1) : Gx s H (H1.set s o) := ⟨g.le, fun j h1 h2 => (if_neg h2).trans (g.eq j h1)⟩
noncomputable def SNode.ne (s : Nat) (x : SNode) : Prop := x.ix ≠ s ∧ x.lx ≠ s ∧ ∀ p ∈ x.rs, p.2 ≠ s
theorem Rule.ok.gx {s e : Nat} {H H' : PH} {r : Rule} (h : r.ok H e) (n : e ≠ s) (g : Gx s H H') : r.ok H' e := by
  cases r with
  | dflt v => exact At.gx g h n
  | _ => exact h
theorem SNode.ok.gx {s : Nat} {H H' : PH} {x : SNode} (h : x.ok H) (n : x.ne s) (g : Gx s H H') : x.ok H' := ⟨h.a.gx g n.1, h.l.gx g n.2.1, fun p hp => (h.r p hp).gx (n.2.2 p hp) g, h.rl, h.nl, h.t⟩
noncomputable def SCon.ne (s : Nat) (x : SCon) : Prop := x.ix ≠ s ∧ x.kx ≠ s ∧ ∀ p ∈ x.krs, p.2 ≠ s
theorem icAt.gx {s e : Nat} {names} {H H' : PH} {r} (h : icAt names H r e) (n : e ≠ s) (g : Gx s H H') : icAt names H' r e := let ⟨nm, a, b⟩ := h; ⟨nm, a, b.gx g n⟩
theorem SCon.ok.gx {s : Nat} {names} {H H' : PH} {x : SCon} (h : x.ok names H) (n : x.ne s) (g : Gx s H H') : x.ok names H' := ⟨h.a.gx g n.1, h.l.gx g n.2.1, fun p hp => ⟨(h.r p hp).1.gx (n.2.2 p hp) g, (h.r p hp).2⟩, h.rl, h.n⟩
theorem collV {c : Str} (h : c ∈ colls) : collOk' c := by
  have : colls.all (fun c => decide (c.length ≤ 100) && collOk (foldP c)) = true := by kernel_rfl
  have := List.all_eq_true.mp this c h
  rw [Bool.and_eq_true] at this
  exact ⟨of_decide_eq_true this.1, this.2⟩
theorem collN : collOk' "NoCase" := ⟨by decide, by kernel_rfl⟩
theorem dfltV {v : PV} (h : v ∈ dflts) : noRaw v = true := List.all_eq_true.mp (by kernel_rfl : dflts.all noRaw = true) v h
noncomputable def isIt (v : PV) (i : Nat) : Bool := match v with
  | .int j => j == (i : Int)
  | _ => false
noncomputable def isNo : PV → Bool
  | .none => true
  | _ => false
theorem isIt_eq {v : PV} {i : Nat} (h : isIt v i = true) : v = .int i := by
  cases v <;> first | exact congrArg PV.int (eq_of_beq h) | exact Bool.noConfusion h
theorem isNo_eq {v : PV} (h : isNo v = true) : v = .none := by cases v <;> first | rfl | exact Bool.noConfusion h
noncomputable def placeC (k : Nat) : Bool := (List.range k).all fun i => match (cnames.take k)[i]? with
  | some nm => decide (nm.length ≤ 100) && isIt (placeP (cnames.take k) nm) i && isNo (placeP ((cnames.take k).take i) nm)
  | none => true
theorem placeP_c {k : Nat} (hk : k ≤ 4) {i : Nat} {nm : Str} (h : (cnames.take k)[i]? = some nm) : nm.length ≤ 100 ∧ placeP (cnames.take k) nm = .int i ∧ placeP ((cnames.take k).take i) nm = .none := by
  have hi : i < k := by
    have := (List.getElem?_eq_some_iff.mp h).1
    rw [List.length_take] at this; omega
  have h1 : placeC k = true := List.all_eq_true.mp (by kernel_rfl : (List.range 5).all placeC = true) k (List.mem_range.mpr (by omega))
  have h2 := List.all_eq_true.mp h1 i (List.mem_range.mpr hi)
  rw [h] at h2
  dsimp only at h2
  rw [Bool.and_eq_true, Bool.and_eq_true] at h2
  exact ⟨of_decide_eq_true h2.1.1, isIt_eq h2.1.2, isNo_eq h2.2⟩
theorem nameOk_c {k : Nat} (hk : k ≤ 4) : nameOk (cnames.take k) := ⟨by rw [List.length_take]; omega, fun i nm h => let p := placeP_c hk h; ⟨p.1, p.2.1⟩⟩
theorem nameFresh_c {k : Nat} (hk : k ≤ 4) : nameFresh (cnames.take k) := fun i nm h => (placeP_c hk h).2.2
structure StC1 (nL : Nat) (Hs : PH) (rules : List Rule) (p : List (Rule × Nat)) (q : List Rule) (a : List PV) (H' : PH) : Prop where
  e : a = p.map fun x => x.1.tv x.2
  pq : p.map (·.1) ++ q = rules
  g : Ge Hs H'
  p : ∀ x ∈ p, x.1.ok H' x.2 ∧ x.2 ≠ nL
  q : ∀ x ∈ q, RuleV x
structure StN (H : PH) (D : ND) (nL : Nat) (done : List SNode) (q : List NCol) (ℓ : Loc) (H' : PH) : Prop where
  dq : done.map (·.dc) ++ q.map (·.dc) = D.cols.map (·.dc)
  mem : ∀ c ∈ q, c ∈ D.cols
  a : At H' nL (.list (done.map fun x => .obj x.ix))
  g : Ge H H'
  ok : ∀ x ∈ done, x.ok H' ∧ x.ne nL
  l : ℓ "nodes" = some (.obj nL) ∧ ℓ "columns" = some (.obj D.cx) ∧ ℓ "rules" = some (.obj D.kx) ∧ ℓ "name" = some (.str D.nm)
structure StC2 (names : List Str) (cx : Nat) (Hs : PH) (rows : List Row) (p : List (Row × Nat)) (q : List Row) (a : List PV) (ℓ : Loc) (H' : PH) : Prop where
  e : a = p.map fun x => PV.obj x.2
  pq : p.map (·.1) ++ q = rows
  g : Ge Hs H'
  p : ∀ x ∈ p, icAt names H' x.1 x.2 ∧ Hs.next ≤ x.2
  l : ℓ "columns" = some (.obj cx)
structure StK (H : PH) (D : ND) (nL kL : Nat) (done : List SCon) (q : List NRule) (ℓ : Loc) (H' : PH) : Prop where
  dq : done.map (·.dr) ++ q.map (·.dr) = D.rules.map (·.dr)
  mem : ∀ c ∈ q, c ∈ D.rules
  a : At H' kL (.list (done.map fun x => .obj x.ix))
  g : Ge H H'
  ok : ∀ x ∈ done, x.ok (D.cols.map (·.dc.nm)) H' ∧ x.ne kL
  l : ℓ "constraints" = some (.obj kL) ∧ ℓ "columns" = some (.obj D.cx) ∧ ℓ "nodes" = some (.obj nL) ∧ ℓ "name" = some (.str D.nm)
theorem len_map {α β γ : Type} {f : α → γ} {g : β → γ} {a : List α} {b : List β} {c : List γ} (h : a.map f ++ c = b.map g) : a.length ≤ b.length := by
  have := congrArg List.length h
  rw [List.length_append, List.length_map, List.length_map] at this
  omega
section
variable {Q : KV} {H : PH} {n lo : Nat}
theorem sta_W {D : ND} (hD : D.at lo H) (hv : DV D.nm (D.cols.map (·.dc)) (D.rules.map (·.dr))) (hQ : ∀ H' z, Ge H H' → SSt.ok H' z → z.nm = D.nm → z.nodes.map (·.dc) = D.cols.map (·.dc) → z.cons.map (·.dr) = D.rules.map (·.dr) → Q (.obj z.st) H') :
    CallC (lv (n + 20)) 939 [.obj D.ix] Q H := by
  have hle := hv.le
  rw [List.length_map] at hle
  have hrl := hv.len
  rw [List.length_map] at hrl
  refine sta_c (e_itemsL hD.ai (e_unp3 (e_al rfl (e_srcL hD.ac.push (by rw [List.length_map]; omega) ?_))))
  refine loopF_r (fun r ℓ H1 => ∃ done q, r = q.map (fun c : NCol => PV.obj c.ix) ∧ StN H D H.next done q ℓ H1) (fun r ℓ H1 ⟨_, _, _, I⟩ => (hD.ac.ge I.g).get) ?_ ?_ ⟨[], D.cols, rfl, rfl, fun c h => h, .new, .push, (fun _ h => nomatch h), rfl, rfl, rfl, rfl⟩
  · rintro v r ℓ H1 k ⟨done, q, hr, I⟩ hk
    obtain ⟨c, q, rfl, rfl, rfl⟩ := map_cons_inv hr
    have hcm := I.mem c (.head _)
    have hc := hD.co c hcm
    have hct := hv.cty c.dc (List.mem_map_of_mem hcm)
    have rl := hct.2.len
    have ac := hc.ar.ge I.g
    refine e_itemsL (hc.ai.ge I.g) (e_unp4 (e_srcL ac (by rw [List.length_map]; omega) ?_))
    refine loopC_r (fun r a ℓ H2 => ∃ p q, r = q.map Rule.pv ∧ StC1 H.next H1 c.dc.rules p q a H2) (fun r a ℓ H2 ⟨_, _, _, J⟩ => (ac.ge J.g).get) ?_ ?_ ⟨[], c.dc.rules, rfl, rfl, rfl, .refl, (fun _ h => nomatch h), hct.2.ok⟩
    · rintro v r a ℓ1 H2 kc ⟨p, qr, hr, J⟩ hk
      obtain ⟨rl, qr, rfl, rfl, rfl⟩ := map_cons_inv hr
      have nx := Nat.lt_of_lt_of_le I.a.lt J.g.le
      have gen : ∀ (e : Nat) (H3 : PH) (ℓ' : Loc), Ge H2 H3 → rl.ok H3 e → e ≠ H.next → kc ([rl.tv e], ℓ') H3 := fun e H3 ℓ' g3 ho hne => by
        refine hk _ _ _ ⟨p ++ [(rl, e)], qr, rfl, by rw [J.e, List.map_append]; rfl, by rw [List.map_append, List.append_assoc]; exact J.pq, J.g.trans g3, fun x hx => ?_, fun x hx => J.q x (.tail _ hx)⟩
        rcases List.mem_append.mp hx with h | h
        · exact ⟨(J.p x h).1.mono g3, (J.p x h).2⟩
        · rw [List.mem_singleton.mp h]; exact ⟨ho, hne⟩
      have hrv := J.q rl (.head _)
      have gr : ∀ ℓ', rl.ok H2 H2.next → kc ([rl.tv H2.next], ℓ') H2 := fun ℓ' h => gen H2.next H2 ℓ' .refl h (Nat.ne_of_gt nx)
      cases rl with
      | nn => exact e_itemsT (e_unp2 (e_eq (r := false) rfl (e_tp rfl (gr _ trivial))))
      | uq => exact e_itemsT (e_unp2 (e_eq (r := false) rfl (e_tp rfl (gr _ trivial))))
      | coll cl => exact e_itemsT (e_unp2 (e_eq (r := false) rfl (e_tp rfl (gr _ (collV hrv)))))
      | dflt v => exact e_itemsT (e_unp2 (e_eq (r := true) rfl (mk_Literal (n := n + 7) (dfltV hrv) (e_tp rfl (gen H2.next _ _ .push At.new (Nat.ne_of_gt nx))))))
      | pk b => exact e_itemsT (e_unp2 (e_eq (r := false) rfl (e_tp rfl (gr _ trivial))))
    · rintro b ℓ1 H2 ⟨p, q2, hr, J⟩
      cases map_nil_inv hr
      have hpq := J.pq
      rw [List.append_nil] at hpq
      have hpl : p.length ≤ 10 := by have := congrArg List.length hpq; rw [List.length_map] at this; omega
      have hb : b = p.map fun x => x.1.tv x.2 := J.e
      rw [hb]
      have hdl : done.length ≤ 4 := Nat.le_trans (len_map I.dq) hle
      have a2 := I.a.ge J.g
      have nx := a2.lt
      have n1 : H2.next ≠ H.next := Nat.ne_of_gt nx
      have n2 : H2.next + 1 ≠ H.next := Nat.ne_of_gt (Nat.lt_succ_of_lt nx)
      refine e_alloc (by rw [List.length_map]; omega) (e_opt I.l.1 (e_calL a2.push (.inl rfl) (mk_ColumnDef (n := n + 9) rfl (tys_raw (p := (c.dc.ty, c.dc.af)) hct.1) rfl (e_append a2.push.push (by rw [List.length_map]; omega) (e_none (hk _ _ ⟨done ++ [⟨H2.next + 1, H2.next, c.dc.nm, c.dc.ty, c.dc.af, p⟩], q, rfl, ?_⟩))))))
      have gx : Gx H.next H1 _ := Gx.setAt (o := .list ((done.map fun x => PV.obj x.ix) ++ [.obj (H2.next + 1)])) ((J.g.push' (o := .list (p.map fun x => x.1.tv x.2))).push' (o := .inst 532 [("name", .str c.dc.nm), ("type_name", c.dc.ty), ("constraints", .obj H2.next)]))
      have gx2 : Gx H.next H2 _ := Gx.setAt (o := .list ((done.map fun x => PV.obj x.ix) ++ [.obj (H2.next + 1)])) ((Ge.push (o := .list (p.map fun x => x.1.tv x.2))).push' (o := .inst 532 [("name", .str c.dc.nm), ("type_name", c.dc.ty), ("constraints", .obj H2.next)]))
      refine ⟨?_, fun x hx => I.mem x (.tail _ hx), by rw [List.map_append]; exact a2.push.push.set, ((I.g.trans J.g).push'.push').set (Nat.le_refl _), fun x hx => ?_, I.l⟩
      · rw [List.map_append, List.append_assoc, ← I.dq]
        show _ ++ (SNode.dc _ :: _) = _
        rw [SNode.dc, hpq]; rfl
      · rcases List.mem_append.mp hx with h | h
        · exact ⟨(I.ok x h).1.gx (I.ok x h).2 gx, (I.ok x h).2⟩
        · rw [List.mem_singleton.mp h]
          refine ⟨⟨At.new.setne n2, At.new.push.setne n1, fun x hx => (J.p x hx).1.gx (J.p x hx).2 gx2, by show p.length ≤ 100; omega, ?_, hct.1⟩, n2, n1, fun x hx => (J.p x hx).2⟩
          have hm : c.dc.nm ∈ cnames := by
            have : c.dc.nm ∈ (D.cols.map (·.dc)).map (·.nm) := List.mem_map_of_mem (List.mem_map_of_mem hcm)
            rw [hv.names] at this
            exact List.mem_of_mem_take this
          exact of_decide_eq_true (List.all_eq_true.mp (by kernel_rfl : cnames.all (fun s => decide (s.length ≤ 100)) = true) _ hm)
  · rintro ℓ H1 ⟨done, q, hr, I⟩
    cases map_nil_inv hr
    have hdq := I.dq
    rw [List.map_nil, List.append_nil] at hdq
    have hdl : done.length ≤ 4 := Nat.le_trans (len_map I.dq) hle
    refine e_al rfl (e_opt I.l.2.2.1 (e_srcL (hD.ak.ge I.g).push (by rw [List.length_map]; omega) ?_))
    refine loopF_r (fun r ℓ H2 => ∃ dk q, r = q.map NRule.pv ∧ StK H1 D H.next H1.next dk q ℓ H2) (fun r ℓ H2 ⟨_, _, _, J⟩ => ((hD.ak.ge I.g).ge J.g).get) ?_ ?_ ⟨[], D.rules, rfl, rfl, fun c h => h, .new, .push, (fun _ h => nomatch h), rfl, I.l.2.1, I.l.1, I.l.2.2.2⟩
    · rintro v r ℓ H2 k ⟨dk, q, hr, J⟩ hk
      obtain ⟨r0, q, rfl, rfl, rfl⟩ := map_cons_inv hr
      have gB := I.g.trans J.g
      have hm0 := J.mem r0 (.head _)
      have ar := (hD.ru r0 hm0).a.ge gB
      have hdr := hv.rul r0.dr (List.mem_map_of_mem hm0)
      rw [List.length_map] at hdr
      have hr4 := hdr.2.1
      refine e_itemsT (e_unp2 (e_srcL ar (by rw [List.length_map]; omega) ?_))
      refine loopC_r (fun r a ℓ H3 => ∃ p q, r = q.map Row.pv ∧ StC2 (D.cols.map (·.dc.nm)) D.cx H2 r0.dr.rows p q a ℓ H3) (fun r a ℓ H3 ⟨_, _, _, L⟩ => (ar.ge L.g).get) ?_ ?_ ⟨[], r0.dr.rows, rfl, rfl, rfl, .refl, (fun _ h => nomatch h), J.l.2.1⟩
      · rintro v r a ℓ1 H3 kc ⟨p, qr, hr, L⟩ hk
        obtain ⟨rw0, qr, rfl, rfl, rfl⟩ := map_cons_inv hr
        have hrv := hdr.2.2 rw0 (by rw [← L.pq]; exact List.mem_append_right _ (.head _))
        obtain ⟨c, hc⟩ : ∃ c, D.cols[rw0.pl]? = some c := ⟨_, List.getElem?_eq_getElem hrv.1⟩
        have gC := gB.trans L.g
        refine e_itemsT (e_unp3 (e_opt L.l (e_subs (k := rw0.pl) (hD.ac.ge gC) (by have := hrv.1; omega) (by rw [List.getElem?_map, hc]; rfl) (e_subsL 0 rfl ((hD.co c (List.mem_of_getElem? hc)).ai.ge gC) (by decide) rfl (mk_IndexedColumn (n := n + 9) rfl raw_optS rfl (hk _ _ _ ⟨p ++ [(rw0, H3.next)], qr, rfl, by rw [L.e, List.map_append]; rfl, by rw [List.map_append, List.append_assoc]; exact L.pq, L.g.push', fun x hx => ?_, L.l⟩))))))
        rcases List.mem_append.mp hx with h | h
        · exact ⟨(L.p x h).1.mono .push, (L.p x h).2⟩
        · rw [List.mem_singleton.mp h]
          exact ⟨⟨c.dc.nm, by show (D.cols.map (·.dc.nm))[rw0.pl]? = _; rw [List.getElem?_map, hc]; rfl, .new⟩, L.g.le⟩
      · rintro b ℓ1 H3 ⟨p, q2, hr, L⟩
        cases map_nil_inv hr
        have hpq := L.pq
        rw [List.append_nil] at hpq
        have hpl : p.length = r0.dr.rows.length := by have := congrArg List.length hpq; rwa [List.length_map] at this
        have hb : b = p.map fun x => PV.obj x.2 := L.e
        rw [hb]
        have hdl2 : dk.length ≤ 3 := Nat.le_trans (len_map J.dq) hrl
        have a3 := J.a.ge L.g
        have nx := a3.lt
        have nx2 := J.a.lt
        have n1 : H3.next ≠ H1.next := Nat.ne_of_gt nx
        have n2 : H3.next + 1 ≠ H1.next := Nat.ne_of_gt (Nat.lt_succ_of_lt nx)
        refine e_alloc (by rw [List.length_map]; omega) (e_opt J.l.1 (e_calL a3.push (.inl rfl) (mk_TableConstraint (n := n + 9) rfl rfl rfl (e_append a3.push.push (by rw [List.length_map]; omega) (e_none (hk _ _ ⟨dk ++ [⟨H3.next + 1, H3.next, r0.dr.pk, p⟩], q, rfl, ?_⟩))))))
        have gx : Gx H1.next H2 _ := Gx.setAt (o := .list ((dk.map fun x => PV.obj x.ix) ++ [.obj (H3.next + 1)])) ((L.g.push' (o := .list (p.map fun x => PV.obj x.2))).push' (o := .inst 584 [("kind", wordPV r0.dr.pk), ("columns", .obj H3.next), ("check", .none)]))
        have gx2 : Gx H1.next H3 _ := Gx.setAt (o := .list ((dk.map fun x => PV.obj x.ix) ++ [.obj (H3.next + 1)])) ((Ge.push (o := .list (p.map fun x => PV.obj x.2))).push' (o := .inst 584 [("kind", wordPV r0.dr.pk), ("columns", .obj H3.next), ("check", .none)]))
        refine ⟨?_, fun x hx => J.mem x (.tail _ hx), by rw [List.map_append]; exact a3.push.push.set, ((J.g.trans L.g).push'.push').set (Nat.le_refl _), fun x hx => ?_, J.l⟩
        · rw [List.map_append, List.append_assoc, ← J.dq]
          show _ ++ (SCon.dr _ :: _) = _
          rw [SCon.dr, hpq]; rfl
        · rcases List.mem_append.mp hx with h | h
          · exact ⟨(J.ok x h).1.gx (J.ok x h).2 gx, (J.ok x h).2⟩
          · rw [List.mem_singleton.mp h]
            have ne3 : ∀ x ∈ p, x.2 ≠ H1.next := fun x hx => Nat.ne_of_gt (Nat.lt_of_lt_of_le nx2 (L.p x hx).2)
            refine ⟨⟨At.new.setne n2, At.new.push.setne n1, fun x hx => ⟨(L.p x hx).1.gx (ne3 x hx) gx2, ?_⟩, by show p.length ≤ 100; omega, fun e => ?_⟩, n2, n1, ne3⟩
            · have hrv := hdr.2.2 x.1 (by rw [← hpq]; exact List.mem_map_of_mem hx)
              refine ⟨by have := hrv.1; omega, fun c hc => ?_⟩
              rcases hrv.2 with h | h
              · rw [h] at hc; exact nomatch hc
              · rw [h] at hc; cases hc; exact collN
            · have : p = [] := e
              rw [this] at hpl
              exact hdr.1 (List.length_eq_zero_iff.mp hpl.symm)
    · rintro ℓ1 H2 ⟨dk, q, hr, J⟩
      cases map_nil_inv hr
      have hdq2 := J.dq
      rw [List.map_nil, List.append_nil] at hdq2
      have hdl2 : dk.length ≤ 3 := Nat.le_trans (len_map J.dq) hrl
      have hnames : done.map (·.nm) = D.cols.map (·.dc.nm) := by
        have := congrArg (List.map DC.nm) hdq
        rw [List.map_map, List.map_map] at this
        exact this
      have hnm4 : done.map (·.nm) = cnames.take D.cols.length := by
        have := hv.names
        rw [List.length_map, List.map_map] at this
        exact hnames.trans this
      refine e_opt J.l.2.2.2 (e_opt J.l.2.2.1 (e_opt J.l.1 (mk_CreateTable (n := n + 11) rfl rfl rfl rfl rfl ?_)))
      refine hQ _ ⟨H2.next, H.next, H1.next, D.nm, done, dk⟩ (I.g.trans J.g).push' ⟨.new, (I.a.ge J.g).push, J.a.push, fun x hx => ((I.ok x hx).1.mono J.g).mono .push, fun y hy => ?_, by show done.length ≤ 100; omega, by show dk.length ≤ 100; omega, ?_, ?_⟩ rfl hdq hdq2
      · show y.ok (done.map (·.nm)) _
        rw [hnames]
        exact (J.ok y hy).1.mono .push
      · show nameOk (done.map (·.nm))
        rw [hnm4]; exact nameOk_c hle
      · show nameFresh (done.map (·.nm))
        rw [hnm4]; exact nameFresh_c hle
end
end Mine
namespace Mine
open PySem
noncomputable def Rule.key : Rule → Str
  | .nn => "not null"
  | .uq => "unique"
  | .coll _ => "collate"
  | .dflt _ => "default"
  | .pk _ => "primary key"
noncomputable def Rule.det : Rule → PV
  | .nn => .none
  | .uq => .none
  | .coll c => .str c
  | .dflt v => v
  | .pk b => .bool b
theorem Rule.pv_eq (r : Rule) : r.pv = .tup [.str r.key, r.det] := by cases r <;> rfl
noncomputable def Rule.tr : Rule → Bool
  | .nn => false
  | .uq => false
  | .coll _ => true
  | .dflt v => !(isNo v)
  | .pk b => b
theorem truth_det {r : Rule} (h : RuleV r) {K : Bool → PH → Prop} {H : PH} (k : K r.tr H) : truthC r.det K H := by
  cases r with
  | nn => exact k
  | uq => exact k
  | pk b => exact k
  | coll c =>
    have h2 := List.all_eq_true.mp (by kernel_rfl : colls.all (fun c => decide (c.length ≤ 1000) && decide (c.length ≠ 0)) = true) c h
    rw [Bool.and_eq_true] at h2
    exact ⟨of_decide_eq_true h2.1, h2.2.symm ▸ k⟩
  | dflt v =>
    have h : v ∈ [.int 5, .str "x y", .none, .bytes [122].toArray] := h
    rcases List.mem_cons.mp h with rfl | h
    · exact k
    rcases List.mem_cons.mp h with rfl | h
    · exact ⟨by decide, k⟩
    rcases List.mem_cons.mp h with rfl | h
    · exact k
    cases List.mem_singleton.mp h
    exact ⟨by decide, k⟩
noncomputable def detP (w : Str) (o : PV) (rs : List Rule) : PV := rs.foldl (fun o r => bif r.key == w then r.det else o) o
theorem enum_get : ∀ (l : List PV) (k i : Nat) (v : PV), (enumL k l)[i]? = some v → ∃ u, l[i]? = some u ∧ v = .tup [.int ((k + i : Nat) : Int), u]
  | [], k, i, v, h => nomatch h
  | a :: l, k, 0, v, h => ⟨a, rfl, (Option.some.inj h).symm⟩
  | a :: l, k, i + 1, v, h => by
    obtain ⟨u, h1, h2⟩ := enum_get l (k + 1) i v h
    exact ⟨u, h1, by rw [h2, Nat.add_assoc, Nat.add_comm 1]⟩
theorem enum_len : ∀ (l : List PV) (k : Nat), (enumL k l).length = l.length
  | [], k => rfl
  | a :: l, k => congrArg (· + 1) (enum_len l (k + 1))
section
variable {Q : KV} {H : PH} {n lo : Nat}
theorem det_W {c : NCol} {w : Str} {o : PV} (hc : c.at lo H) (hl : c.dc.rules.length ≤ 10) (hQ : Q (detP w o c.dc.rules) H) : CallC (lv (n + 10)) 946 [.obj c.ix, .str w, o] Q H := by
  refine det_c (e_subsL 3 rfl hc.ai (by decide) rfl (e_srcL hc.ar (by rw [List.length_map]; omega) ?_))
  refine loopF_r (fun r ℓ H1 => ∃ q o1, r = q.map Rule.pv ∧ H1 = H ∧ (ℓ "word" = some (.str w) ∧ ℓ "other" = some o1) ∧ detP w o1 q = detP w o c.dc.rules) (fun r ℓ H1 ⟨_, _, _, e, _⟩ => e ▸ hc.ar.get) ?_ ?_ ⟨c.dc.rules, o, rfl, rfl, ⟨rfl, rfl⟩, rfl⟩
  · rintro v r ℓ H1 k ⟨q, o1, hr, rfl, l, e⟩ hk
    obtain ⟨r0, q, rfl, rfl, rfl⟩ := map_cons_inv hr
    rw [detP, List.foldl_cons] at e
    rw [Rule.pv_eq]
    refine e_itemsT (e_unp2 (e_opt l.1 (e_eq rfl ?_)))
    cases hb : r0.key == w with
    | true => rw [hb] at e; exact hk _ _ ⟨q, r0.det, rfl, rfl, ⟨l.1, rfl⟩, e⟩
    | false => rw [hb] at e; exact e_opt l.2 (hk _ _ ⟨q, o1, rfl, rfl, ⟨l.1, rfl⟩, e⟩)
  · rintro ℓ H1 ⟨q, o1, hr, rfl, l, e⟩
    cases map_nil_inv hr
    have e : o1 = detP w o c.dc.rules := e
    exact e_opt l.2 (e.symm ▸ hQ)
end
structure TE where
  key : Str
  rx : Nat
  rows : List Row
  tu : Bool
noncomputable def TE.pv (t : TE) : PV := .tup [.str t.key, .obj t.rx, .bool t.tu]
noncomputable def TE.ev (ts : List PV) (t : TE) : Evn := bif t.key == "unique" then .uq t.rows else bif t.key == "primary key" then .pk t.rows (!t.tu && isrT ts t.rows) else .oth
noncomputable def TE.at (H : PH) (t : TE) : Prop := At H t.rx (rowsV t.rows)
noncomputable def TE.v (m : Nat) (t : TE) : Prop := t.rows ≠ [] ∧ t.rows.length ≤ 4 ∧ ∀ x ∈ t.rows, x.pl < m
noncomputable def conEvL (ts : List PV) (k : DR) : Evn := if k.pk then .pk k.rows (isrT ts k.rows) else .uq k.rows
noncomputable def evL (cols : List DC) (rules : List DR) : List Evn := evsC 0 cols ++ rules.map (conEvL (cols.map (·.ty)))
theorem TE_rule {r : Rule} {i rx : Nat} {ts : List PV} {ty : PV} (h : ts[i]? = some ty) : TE.ev ts ⟨r.key, rx, [⟨i, none, r.tr⟩], r.tr⟩ = r.ev i ty := by
  cases r with
  | nn => kernel_rfl
  | uq => kernel_rfl
  | coll c => kernel_rfl
  | dflt v => kernel_rfl
  | pk b =>
    show Evn.pk _ (!b && ((ts[i]?).map isIntP).getD false) = Evn.pk _ (isIntP ty && !b)
    rw [h, Bool.and_comm]
    rfl
structure NK where
  kx : Nat
  rx : Nat
  k : Key
structure NK.at (H : PH) (x : NK) : Prop where
  a : At H x.kx (.list [.obj x.rx, ogS x.k.pk])
  r : At H x.rx (rowsV x.k.rows)
theorem NK.at.gx {s : Nat} {H H' : PH} {x : NK} (h : x.at H) (h1 : x.kx ≠ s) (h2 : x.rx ≠ s) (g : Gx s H H') : x.at H' := ⟨h.a.gx g h1, h.r.gx g h2⟩
theorem NK.at.mono {H H' : PH} {x : NK} (h : x.at H) (g : Ge H H') : x.at H' := ⟨h.a.ge g, h.r.ge g⟩
noncomputable def keysV (l : List NK) : List PV := l.map fun x => .obj x.kx
structure KeysAt (lo : Nat) (H : PH) (i : Nat) (A : Acc) (pL kL : Nat) (ks : List NK) : Prop where
  lo : lo ≤ pL
  a : At H i (.list [optI A.rowid, .obj pL, .obj kL])
  p : At H pL (natsV A.prim)
  k : At H kL (.list (keysV ks))
  e : ks.map (·.k) = A.keys
  ks : ∀ x ∈ ks, x.at H
structure LkA (Hb : PH) (D : ND) (ts : List PV) (pL kL i : Nat) (tes : List TE) (tL : Nat) (ℓ : Loc) (H' : PH) : Prop where
  told : ℓ "told" = some (.obj tL)
  a : At H' tL (.list (tes.map TE.pv))
  te : ∀ t ∈ tes, t.at H' ∧ t.v D.cols.length ∧ t.rx ≠ kL
  g : Ge Hb H'
  ev : tes.map (TE.ev ts) ++ evsC i ((D.cols.drop i).map (·.dc)) = evsC 0 (D.cols.map (·.dc))
  len : tes.length ≤ 10 * i
  l : ℓ "drawn" = some (.obj D.ix) ∧ ℓ "rowid" = some .none ∧ ℓ "primary" = some (.obj pL) ∧ ℓ "keys" = some (.obj kL)
structure LkB (Hs : PH) (m kL : Nat) (ts : List PV) (i : Nat) (c : DC) (p : List TE) (q : List Rule) (a : List PV) (ℓ : Loc) (H' : PH) : Prop where
  e : a = p.map TE.pv
  te : ∀ t ∈ p, t.at H' ∧ t.v m ∧ t.rx ≠ kL
  g : Ge Hs H'
  ev : p.map (TE.ev ts) ++ q.map (Rule.ev i c.ty) = c.rules.map (Rule.ev i c.ty)
  len : p.length + q.length = c.rules.length
  rv : ∀ x ∈ q, RuleV x
  l : ℓ "place" = some (.int i)
structure LkC (Hs : PH) (D : ND) (ts : List PV) (all : List TE) (lo kL : Nat) (fin : Acc) (q : List TE) (A : Acc) (ks : List NK) (pL : Nat) (ℓ : Loc) (H' : PH) : Prop where
  mem : ∀ t ∈ q, t ∈ all
  ak : At H' kL (.list (keysV ks))
  e : ks.map (·.k) = A.keys
  ok : ∀ x ∈ ks, x.at H' ∧ x.kx ≠ kL ∧ x.rx ≠ kL
  ap : At H' pL (natsV A.prim)
  ne : pL ≠ kL
  lo : lo ≤ pL
  g : Gx kL Hs H'
  f : (q.map (TE.ev ts)).foldl Acc.step A = fin
  len : ks.length + q.length ≤ 50
  l : ℓ "rowid" = some (optI A.rowid) ∧ ℓ "primary" = some (.obj pL) ∧ ℓ "keys" = some (.obj kL) ∧ ℓ "drawn" = some (.obj D.ix)
theorem Gx.ge {s : Nat} {H H1 H2 : PH} (a : Gx s H H1) (g : Ge H1 H2) : Gx s H H2 := ⟨Nat.le_trans a.le g.le, fun j h1 h2 => (g.eq j (Nat.lt_of_lt_of_le h1 a.le)).trans (a.eq j h1 h2)⟩
theorem Gx.trans {s : Nat} {H H1 H2 : PH} (a : Gx s H H1) (g : Gx s H1 H2) : Gx s H H2 := ⟨Nat.le_trans a.le g.le, fun j h1 h2 => (g.eq j (Nat.lt_of_lt_of_le h1 a.le) h2).trans (a.eq j h1 h2)⟩
theorem anyInt {H : PH} {p : PV × Str} (hp : p ∈ tys) : anyIn H p.1 [.str "INTEGER", .str "integer"] = some (isIntP p.1) := by
  rcases List.mem_append.mp hp with hp | hp
  · obtain ⟨q, hq, rfl⟩ := List.mem_map.mp hp
    have h := List.all_eq_true.mp (by kernel_rfl : tyS.all (fun p => (("INTEGER" : Str) == p.1 || (("integer" : Str) == p.1 || false)) == isIntP (.str p.1)) = true) q hq
    exact congrArg some (eq_of_beq h)
  · cases List.mem_singleton.mp hp
    rfl
end Mine
namespace Mine
open PySem
theorem keysV_app {l : List NK} {x : NK} : keysV (l ++ [x]) = keysV l ++ [.obj x.kx] := List.map_append
section
variable {Q : KV} {H : PH} {n lo : Nat}
theorem key_W {D : ND} (hD : D.at lo H) (hv : DV D.nm (D.cols.map (·.dc)) (D.rules.map (·.dr)))
    (hQ : ∀ H' i pL kL ks, Ge H H' → KeysAt H.next H' i ((evL (D.cols.map (·.dc)) (D.rules.map (·.dr))).foldl Acc.step Acc.z) pL kL ks → Q (.obj i) H') : CallC (lv (n + 20)) 951 [.obj D.ix] Q H := by
  have hle := hv.le
  rw [List.length_map] at hle
  have hrl := hv.len
  rw [List.length_map] at hrl
  have cl : (D.cols.map fun c => PV.obj c.ix).length ≤ 1000 := by rw [List.length_map]; omega
  refine key_c (e_al rfl (e_al rfl (e_tp rfl (e_itemsT (e_unp3 (e_al rfl (e_subsL 1 rfl hD.ai.push.push.push (by decide) rfl (e_enum hD.ac.push.push.push cl ?_))))))))
  have gb : Ge H (((H.push (.list [])).push (.list [])).push (.list [])) := Ge.push.push'.push'
  have ap : At (((H.push (.list [])).push (.list [])).push (.list [])) H.next (.list []) := At.new.push.push
  have ak : At (((H.push (.list [])).push (.list [])).push (.list [])) (H.push (.list [])).next (.list []) := At.new.push
  have at0 : At (((H.push (.list [])).push (.list [])).push (.list [])) ((H.push (.list [])).push (.list [])).next (.list []) := .new
  generalize ((H.push (.list [])).push (.list [])).push (.list []) = Hb at gb ap ak at0 ⊢
  generalize ((H.push (.list [])).push (.list [])).next = tL0 at at0 ⊢
  obtain ⟨kL, hkL⟩ : ∃ kL, (H.push (.list [])).next = kL := ⟨_, rfl⟩
  rw [hkL] at ak ⊢
  have hkL : kL = H.next + 1 := hkL.symm
  obtain ⟨ts, hts⟩ : ∃ ts, ts = D.cols.map (·.dc.ty) := ⟨_, rfl⟩
  have old : ∀ {j}, j < H.next → j ≠ kL := fun h => by omega
  refine loopF_i (fun i ℓ H1 => ∃ tes tL, LkA Hb D ts H.next kL i tes tL ℓ H1) (fun i ℓ H1 ⟨_, _, I⟩ => (hD.ac.ge (gb.trans I.g)).get) ?_ ?_ ⟨[], tL0, rfl, at0, (fun _ h => nomatch h), .refl, rfl, Nat.zero_le _, rfl, rfl, rfl, rfl⟩
  · rintro i v ℓ H1 k hv0 ⟨tes, tL, I⟩ hk
    obtain ⟨u, hu, rfl⟩ := enum_get _ _ _ _ hv0
    rw [List.getElem?_map, Option.map_eq_some_iff] at hu
    obtain ⟨c, hc, rfl⟩ := hu
    rw [Nat.zero_add]
    have hm := List.mem_of_getElem? hc
    have hil : i < D.cols.length := (List.getElem?_eq_some_iff.mp hc).1
    have hco := hD.co c hm
    have hct := hv.cty c.dc (List.mem_map_of_mem hm)
    have rl := hct.2.len
    have gI := gb.trans I.g
    have ar := hco.ar.ge gI
    have htsi : ts[i]? = some c.dc.ty := by rw [hts, List.getElem?_map, hc]; rfl
    refine e_itemsT (e_unp2 (e_opt I.told (e_subsL 3 rfl (hco.ai.ge gI) (by decide) rfl (e_srcL ar (by rw [List.length_map]; omega) ?_))))
    refine loopC_r (fun r a ℓ H2 => ∃ p q, r = q.map Rule.pv ∧ LkB H1 D.cols.length kL ts i c.dc p q a ℓ H2) (fun r a ℓ H2 ⟨_, _, _, J⟩ => (ar.ge J.g).get) ?_ ?_ ⟨[], c.dc.rules, rfl, rfl, (fun _ h => nomatch h), .refl, rfl, Nat.zero_add _, hct.2.ok, rfl⟩
    · rintro v r a ℓ1 H2 kc ⟨p, q, hr, J⟩ hk
      obtain ⟨r0, q, rfl, rfl, rfl⟩ := map_cons_inv hr
      have hrv := J.rv r0 (.head _)
      rw [Rule.pv_eq]
      have nx := Nat.lt_of_lt_of_le (ak.ge I.g).lt J.g.le
      refine e_itemsT (e_unp2 (e_opt J.l (e_bool (truth_det hrv (e_tp rfl (e_al rfl (e_bool (truth_det hrv (e_tp rfl (hk _ _ _ ⟨p ++ [⟨r0.key, H2.next, [⟨i, none, r0.tr⟩], r0.tr⟩], q, rfl, ?_⟩))))))))))
      have hlen := J.len
      rw [List.length_cons] at hlen
      refine ⟨by rw [J.e, List.map_append]; rfl, fun t ht => ?_, J.g.push', ?_, by rw [List.length_append, List.length_singleton]; omega, fun x hx => J.rv x (.tail _ hx), J.l⟩
      · rcases List.mem_append.mp ht with h | h
        · exact ⟨(J.te t h).1.push, (J.te t h).2⟩
        · rw [List.mem_singleton.mp h]
          exact ⟨At.new, ⟨nofun, Nat.le_of_ble_eq_true rfl, fun x hx => by rw [List.mem_singleton.mp hx]; exact hil⟩, Nat.ne_of_gt nx⟩
      · rw [← J.ev, List.map_append, List.map_cons, List.map_nil, TE_rule htsi, List.append_assoc]
        rfl
    · rintro b ℓ1 H2 ⟨p, q, hr, J⟩
      cases map_nil_inv hr
      have hlen : p.length = c.dc.rules.length := J.len
      have hb : b = p.map TE.pv := J.e
      have tl := I.len
      rw [hb]
      refine e_alloc (by rw [List.length_map]; omega) (e_addL (I.a.ge J.g).push .new (by rw [List.length_map, List.length_map]; omega) (hk _ _ ⟨tes ++ p, H2.next + 1, ?_⟩))
      refine ⟨rfl, by rw [List.map_append]; exact .new, fun t ht => ?_, (I.g.trans J.g).push'.push', ?_, by rw [List.length_append]; omega, I.l⟩
      · rcases List.mem_append.mp ht with h | h
        · exact ⟨((I.te t h).1.ge J.g).push.push, (I.te t h).2⟩
        · exact ⟨(J.te t h).1.push.push, (J.te t h).2⟩
      · have hpe : p.map (TE.ev ts) = c.dc.rules.map (Rule.ev i c.dc.ty) := by have := J.ev; rwa [List.map_nil, List.append_nil] at this
        have hd : D.cols.drop i = c :: D.cols.drop (i + 1) := by
          rw [List.drop_eq_getElem_cons hil]
          rw [List.getElem?_eq_getElem hil] at hc
          rw [Option.some.inj hc]
        rw [← I.ev, hd, List.map_append, hpe, List.map_cons, evsC, List.append_assoc]
  · rintro ℓ H1 ⟨tes, tL, I⟩
    have tl := I.len
    have hev := I.ev
    rw [enum_len, List.length_map] at tl hev
    rw [List.drop_length, List.map_nil, evsC, List.append_nil] at hev
    have gI := gb.trans I.g
    refine e_opt I.told (e_opt I.l.1 (e_subsL 2 rfl (hD.ai.ge gI) (by decide) rfl (e_srcL (hD.ak.ge gI) (by rw [List.length_map]; omega) ?_)))
    refine mapC_r (F := NRule.pv) (fun r : NRule => TE.pv ⟨kindS r.dr.pk, r.rx, r.dr.rows, false⟩) (fun _ => True) True.intro (hD.ak.ge gI).get (fun r _ ℓ _ k hk => e_itemsT (e_unp2 (e_tp rfl (hk _ True.intro)))) (e_alloc (by rw [List.length_map]; omega) ?_)
    obtain ⟨all, hall⟩ : ∃ all, all = tes ++ D.rules.map fun r : NRule => (⟨kindS r.dr.pk, r.rx, r.dr.rows, false⟩ : TE) := ⟨_, rfl⟩
    have hL : tes.map TE.pv ++ D.rules.map (fun r : NRule => TE.pv ⟨kindS r.dr.pk, r.rx, r.dr.rows, false⟩) = all.map TE.pv := by
      rw [hall, List.map_append, List.map_map]; rfl
    have hallen : all.length ≤ 43 := by rw [hall, List.length_append, List.length_map]; omega
    refine e_addL I.a.push .new (by rw [List.length_map, List.length_map]; omega) ?_
    rw [hL]
    have gS : Ge H1 ((H1.push (.list (D.rules.map (fun r : NRule => TE.pv ⟨kindS r.dr.pk, r.rx, r.dr.rows, false⟩)))).push (.list (all.map TE.pv))) := Ge.push.push'
    have aL : At ((H1.push (.list (D.rules.map (fun r : NRule => TE.pv ⟨kindS r.dr.pk, r.rx, r.dr.rows, false⟩)))).push (.list (all.map TE.pv))) (H1.push (.list (D.rules.map (fun r : NRule => TE.pv ⟨kindS r.dr.pk, r.rx, r.dr.rows, false⟩)))).next (.list (all.map TE.pv)) := .new
    have nL : (H1.push (.list (D.rules.map (fun r : NRule => TE.pv ⟨kindS r.dr.pk, r.rx, r.dr.rows, false⟩)))).next ≠ kL := Nat.ne_of_gt (Nat.lt_succ_of_lt (ak.ge I.g).lt)
    generalize (H1.push (.list (D.rules.map (fun r : NRule => TE.pv ⟨kindS r.dr.pk, r.rx, r.dr.rows, false⟩)))).next = L at aL nL ⊢
    generalize (H1.push (.list (D.rules.map (fun r : NRule => TE.pv ⟨kindS r.dr.pk, r.rx, r.dr.rows, false⟩)))).push (.list (all.map TE.pv)) = Hs at gS aL ⊢
    have gHS := gI.trans gS
    have hat : ∀ t ∈ all, t.at Hs ∧ t.v D.cols.length ∧ t.rx ≠ kL := by
      intro t ht
      rw [hall] at ht
      rcases List.mem_append.mp ht with h | h
      · exact ⟨(I.te t h).1.ge gS, (I.te t h).2⟩
      · obtain ⟨r, hr, rfl⟩ := List.mem_map.mp h
        have hdr := hv.rul r.dr (List.mem_map_of_mem hr)
        rw [List.length_map] at hdr
        have a := (hD.ru r hr).a
        exact ⟨a.ge gHS, ⟨hdr.1, hdr.2.1, fun x hx => (hdr.2.2 x hx).1⟩, old a.lt⟩
    obtain ⟨fin, hfin⟩ : ∃ fin, (evL (D.cols.map (·.dc)) (D.rules.map (·.dr))).foldl Acc.step Acc.z = fin := ⟨_, rfl⟩
    have hev2 : (all.map (TE.ev ts)).foldl Acc.step Acc.z = fin := by
      rw [← hfin, hall, List.map_append, hev, evL, List.map_map, List.map_map, List.map_map]
      congr 2
      refine List.map_congr_left fun r _ => ?_
      show TE.ev ts ⟨kindS r.dr.pk, r.rx, r.dr.rows, false⟩ = conEvL _ r.dr
      rw [conEvL, hts]
      cases r.dr.pk <;> kernel_rfl
    rw [hfin] at hQ
    refine e_srcL aL (by rw [List.length_map]; omega) ?_
    refine loopF_r (fun r ℓ H2 => ∃ q A ks pL, r = q.map TE.pv ∧ LkC Hs D ts all H.next kL fin q A ks pL ℓ H2) (fun r ℓ H2 ⟨_, _, _, _, _, C⟩ => (aL.gx C.g nL).get) ?_ ?_ ⟨all, Acc.z, [], H.next, rfl, fun t h => h, (ak.ge I.g).ge gS, rfl, (fun _ h => nomatch h), (ap.ge I.g).ge gS, by omega, Nat.le_refl _, ⟨Nat.le_refl _, fun _ _ _ => rfl⟩, hev2, by rw [List.length_nil]; omega, I.l.2.1, I.l.2.2.1, I.l.2.2.2, I.l.1⟩
    · rintro v r ℓ H2 k ⟨q, A, ks, pL, hr, C⟩ hk
      obtain ⟨t, q, rfl, rfl, rfl⟩ := map_cons_inv hr
      obtain ⟨tat, ⟨hne, hl4, hpl⟩, hrx⟩ := hat t (C.mem t (.head _))
      have at2 := tat.gx C.g hrx
      have tl : (t.rows.map Row.pv).length ≤ 1000 := by rw [List.length_map]; omega
      have hlq := C.len
      rw [List.length_cons] at hlq
      have hf := C.f
      rw [List.map_cons, List.foldl_cons] at hf
      have kl2 : kL < H2.next := C.ak.lt
      have ksl : (keysV ks).length < 1000 := by rw [keysV, List.length_map]; omega
      have addK : ∀ {H3 : PH} {kx rx : Nat} {rows : List Row} {pk : Bool} {A' : Acc} {pL' : Nat} {ℓ3 : Loc}, Ge H2 H3 → H2.next ≤ kx → At H3 kx (.list [.obj rx, ogS pk]) → H2.next ≤ rx → At H3 rx (rowsV rows) → A'.keys = A.keys ++ [⟨rows, pk⟩] →
          At H3 pL' (natsV A'.prim) → pL' ≠ kL → H.next ≤ pL' → (ℓ3 "rowid" = some (optI A'.rowid) ∧ ℓ3 "primary" = some (.obj pL') ∧ ℓ3 "keys" = some (.obj kL) ∧ ℓ3 "drawn" = some (.obj D.ix)) → (q.map (TE.ev ts)).foldl Acc.step A' = fin →
          k ℓ3 (H3.set kL (.list (keysV ks ++ [.obj kx]))) := fun {H3 kx rx rows pk A' pL' ℓ3} g3 h1 h2 h3 h4 h5 h6 h7 h8 h9 h10 => by
        have gx3 : Gx kL H2 (H3.set kL (.list (keysV ks ++ [.obj kx]))) := Gx.setAt g3
        have n1 : kx ≠ kL := by omega
        have n2 : rx ≠ kL := by omega
        refine hk _ _ ⟨q, A', ks ++ [⟨kx, rx, ⟨rows, pk⟩⟩], pL', rfl, fun x hx => C.mem x (.tail _ hx), by rw [keysV_app]; exact (C.ak.ge g3).set, by rw [List.map_append, C.e, h5]; rfl, fun x hx => ?_, h6.setne h7, h7, h8, C.g.trans gx3, h10, by rw [List.length_append, List.length_singleton]; omega, h9⟩
        rcases List.mem_append.mp hx with h | h
        · exact ⟨(C.ok x h).1.gx (C.ok x h).2.1 (C.ok x h).2.2 gx3, (C.ok x h).2⟩
        · rw [List.mem_singleton.mp h]
          exact ⟨⟨h2.setne n1, h4.setne n2⟩, n1, n2⟩
      refine e_itemsT (e_unp3 (e_eq rfl ?_))
      cases hu : t.key == ("unique" : Str) with
      | true =>
        rw [TE.ev, hu] at hf
        have hp : (t.key == ("primary key" : Str)) = false := by rw [eq_of_beq hu]; kernel_rfl
        refine e_opt C.l.2.2.1 (e_calL C.ak (.inl rfl) (e_srcL at2 tl (mapC_r (F := Row.pv) Row.pv (fun _ => True) True.intro at2.get (fun r _ ℓ _ k hk => e_itemsT (e_unp3 (e_tp rfl (hk _ True.intro)))) (e_alloc tl (e_al rfl (e_append C.ak.push.push ksl (e_none (e_eq rfl ?_))))))))
        rw [hp]
        exact addK Ge.push.push' (Nat.le_succ _) .new (Nat.le_refl _) At.new.push (A' := A.step (.uq t.rows)) rfl C.ap.push.push C.ne C.lo C.l hf
      | false =>
        refine e_eq rfl ?_
        cases hp : t.key == ("primary key" : Str) with
        | false =>
          rw [TE.ev, hu, hp] at hf
          exact hk _ _ ⟨q, A, ks, pL, rfl, fun x hx => C.mem x (.tail _ hx), C.ak, C.e, C.ok, C.ap, C.ne, C.lo, C.g, hf, by omega, C.l⟩
        | true =>
          rw [TE.ev, hu, hp] at hf
          have hf : (q.map (TE.ev ts)).foldl Acc.step (A.step (.pk t.rows (!t.tu && isrT ts t.rows))) = fin := hf
          refine e_srcL at2 tl (mapC_r (F := Row.pv) (fun r : Row => PV.int r.pl) (fun _ => True) True.intro at2.get (fun r _ ℓ _ k hk => e_subsLT 0 rfl (Nat.le_of_ble_eq_true rfl) (by decide) rfl (hk _ True.intro)) (e_alloc (by rw [List.length_map]; omega) (e_len at2.push tl ?_)))
          have en : t.rows.map (fun r : Row => PV.int r.pl) = (t.rows.map (·.pl)).map fun i : Nat => PV.int i := by rw [List.map_map]; rfl
          rw [en]
          have g3 : Ge H2 (H2.push (.list ((t.rows.map (·.pl)).map fun i : Nat => PV.int i))) := .push
          have a3 : At (H2.push (.list ((t.rows.map (·.pl)).map fun i : Nat => PV.int i))) H2.next (natsV (t.rows.map (·.pl))) := .new
          generalize H2.push (.list ((t.rows.map (·.pl)).map fun i : Nat => PV.int i)) = H3 at g3 a3 ⊢
          have tr3 := at2.ge g3
          have pne : H2.next ≠ kL := Nat.ne_of_gt kl2
          have plo : H.next ≤ H2.next := by omega
          have app : ∀ {H4 : PH}, Ge H3 H4 → (!t.tu && isrT ts t.rows) = false → optC (ℓ "keys") (key23 n k (.obj t.rx) ℓ (.str t.key) (.bool t.tu) (.obj H2.next)) H4 := fun {H4} g4 hi => by
            rw [hi] at hf
            have g24 := g3.trans g4
            refine e_opt C.l.2.2.1 (e_calL (C.ak.ge g24) (.inl rfl) (e_list (tr3.ge g4) tl (e_al rfl (e_append (C.ak.ge g24).push.push ksl (e_none ?_)))))
            exact addK g24.push'.push' (Nat.le_succ_of_le g24.le) .new g24.le At.new.push (A' := A.step (.pk t.rows false)) rfl (a3.ge g4).push.push pne plo ⟨C.l.1, rfl, C.l.2.2.1, C.l.2.2.2⟩ hf
          refine e_eq rfl ?_
          cases h1 : (((t.rows.map Row.pv).length : Int) == 1) with
          | false =>
            refine app .refl ?_
            have : isrT ts t.rows = false := by
              match hh : t.rows with
              | [] => rfl
              | [r0] => rw [hh] at h1; exact nomatch h1
              | _ :: _ :: _ => rfl
            rw [this, Bool.and_false]
          | true =>
            obtain ⟨r0, hr0⟩ : ∃ r0, t.rows = [r0] := by
              match hh : t.rows with
              | [] => exact absurd hh hne
              | [r0] => exact ⟨r0, rfl⟩
              | _ :: _ :: _ => rw [hh] at h1; exact absurd (eq_of_beq h1) (by rw [List.length_map, List.length_cons, List.length_cons]; omega)
            refine e_testB (c_b (fun htu => app .refl (by rw [htu]; rfl)) fun htu => ?_)
            have hp0 := hpl r0 (by rw [hr0]; exact .head _)
            obtain ⟨c, hc⟩ : ∃ c, D.cols[r0.pl]? = some c := ⟨_, List.getElem?_eq_getElem hp0⟩
            have hm := List.mem_of_getElem? hc
            have hct := hv.cty c.dc (List.mem_map_of_mem hm)
            have up : ∀ {j o}, At H j o → At H3 j o := fun a => ((a.ge gHS).gx C.g (old a.lt)).ge g3
            have a30 : At H3 H2.next (.list [.int r0.pl]) := by have := a3; rw [hr0] at this; exact this
            have hisr : (!t.tu && isrT ts t.rows) = isIntP c.dc.ty := by
              rw [htu, hr0, hts]
              show (!false && ((D.cols.map (·.dc.ty))[r0.pl]?.map isIntP).getD false) = _
              rw [List.getElem?_map, hc]; rfl
            refine e_opt C.l.2.2.2 (e_subsL 1 rfl (up hD.ai) (by decide) rfl (e_subsL 0 rfl a30 (by decide) rfl (e_subs (k := r0.pl) (up hD.ac) (by omega) (by rw [List.getElem?_map, hc]; rfl) (e_subsL 1 rfl (up (hD.co c hm).ai) (by decide) rfl (e_al rfl (e_inL .new (anyInt (p := (c.dc.ty, c.dc.af)) hct.1) ?_))))))
            dsimp only
            cases hint : isIntP c.dc.ty with
            | false => exact app .push (by rw [hisr, hint])
            | true =>
              rw [hisr, hint] at hf
              have g23 := g3.push' (o := .list [.str "INTEGER", .str "integer"])
              refine e_subsL 0 rfl a30.push (by decide) rfl (hk _ _ ⟨q, A.step (.pk t.rows true), ks, H2.next, rfl, fun x hx => C.mem x (.tail _ hx), C.ak.ge g23, C.e, fun x hx => ⟨(C.ok x hx).1.mono g23, (C.ok x hx).2⟩, a3.push, pne, plo, C.g.ge g23, hf, by omega, ?_, rfl, C.l.2.2.1, C.l.2.2.2⟩)
              show some _ = some (optI (t.rows.head?.map (·.pl)))
              rw [hr0]; rfl
    · rintro ℓ H2 ⟨q, A, ks, pL, hr, C⟩
      cases map_nil_inv hr
      have hf : A = fin := C.f
      subst hf
      refine e_opt C.l.1 (e_opt C.l.2.1 (e_opt C.l.2.2.1 (e_al rfl (hQ _ _ pL kL ks ⟨Nat.le_trans gHS.le (Nat.le_succ_of_le C.g.le), fun j hj => ?_⟩ ⟨C.lo, .new, C.ap.push, C.ak.push, C.e, fun x hx => (C.ok x hx).1.mono .push⟩))))
      exact ((Gx.ge C.g .push).eq j (Nat.lt_of_lt_of_le hj gHS.le) (old hj)).trans (gHS.eq j hj)
end
end Mine
namespace Mine
open PySem
theorem eqE {H : PH} {i j : Nat} {l : List PV} (hij : i ≠ j) (hi : At H i (.list l)) (hj : At H j (.list [])) : eqP H 40 (.obj i) (.obj j) = some l.isEmpty := by
  unfold eqP
  dsimp only
  rw [if_neg hij, hi.get, hj.get]
  cases l with
  | nil => rfl
  | cons a l => exact if_neg (Nat.succ_ne_zero _)
theorem e_rowH {r : Row} {K : KV} {H : PH} (k : K (headV r) H) : SliceC r.pv (.int 2) K H := .tup _ 2 rfl rfl ⟨Nat.le_of_ble_eq_true rfl, Nat.le_of_ble_eq_true rfl⟩ k
theorem e_row0 {r : Row} {K : KV} {H : PH} (k : K (.int r.pl) H) : SubsC r.pv (.int 0) K H := e_subsLT 0 rfl (Nat.le_of_ble_eq_true rfl) (by decide) rfl k
noncomputable def isColl : Rule → Bool
  | .coll _ => true
  | _ => false
theorem key_coll (r : Rule) : (r.key == ("collate" : Str)) = isColl r := by cases r <;> kernel_rfl
noncomputable def ownG (s : Str) (r : Rule) : Str := match r with
  | .coll c => c
  | _ => s
noncomputable def ownS (rs : List Rule) : Str := rs.foldl ownG "binary"
theorem own_gen : ∀ (rs : List Rule) (s : Str), detP "collate" (.str s) rs = .str (rs.foldl ownG s)
  | [], s => rfl
  | r :: rs, s => by
    have e : (bif r.key == ("collate" : Str) then r.det else PV.str s) = .str (ownG s r) := by rw [key_coll]; cases r <;> rfl
    rw [detP, List.foldl_cons, e]
    exact own_gen rs _
theorem own_det (rs : List Rule) : detP "collate" (.str "binary") rs = .str (ownS rs) := own_gen rs "binary"
theorem own_in : ∀ (rs : List Rule) (s : Str), s ∈ colls → (∀ r ∈ rs, RuleV r) → rs.foldl ownG s ∈ colls
  | [], s, h, _ => h
  | r :: rs, s, h, hv => own_in rs _ (by have h0 := hv r (.head _); cases r <;> first | exact h | exact h0) fun x hx => hv x (.tail _ hx)
theorem fin_co : ∀ (rs : List Rule) (c : PC) (s : Str), c.co = foldP s → (rs.foldl PC.app c).co = foldP (rs.foldl ownG s)
  | [], c, s, h => h
  | r :: rs, c, s, h => fin_co rs _ _ (by cases r <;> first | exact h | rfl)
theorem fin_own (c : DC) : c.fin.co = foldP (ownS c.rules) := fin_co c.rules c.init "binary" (by kernel_rfl)
theorem collLow {c : Str} (h : c ∈ (("NoCase" : Str) :: colls)) : asciiP c = true ∧ lowP c = foldP c ∧ c.length ≤ 100 := by
  have h := List.all_eq_true.mp (by kernel_rfl : (("NoCase" : Str) :: colls).all (fun c => asciiP c && (lowP c == foldP c && decide (c.length ≤ 100))) = true) c h
  rw [Bool.and_eq_true, Bool.and_eq_true] at h
  exact ⟨h.1, eq_of_beq h.2.1, of_decide_eq_true h.2.2⟩
noncomputable def NK.ps (x : NK) : List (Nat × PO) := [(x.kx, .list [.obj x.rx, ogS x.k.pk]), (x.rx, rowsV x.k.rows)]
noncomputable def FP (fL : Nat) (fs : List NK) : List (Nat × PO) := (fL, .list (keysV fs)) :: fs.flatMap NK.ps
theorem FP.m {fL : Nat} {fs : List NK} {y : NK} {p : Nat × PO} (h : y ∈ fs) (hp : p ∈ y.ps) : p ∈ FP fL fs := .tail _ (List.mem_flatMap.mpr ⟨y, h, hp⟩)
theorem FP.add {H0 H : PH} {fL sL : Nat} {fs : List NK} {k : Key} (s : Sep H0 (FP fL fs ++ [(sL, rowsV k.rows)]) H) : Sep H0 (FP fL (fs ++ [⟨H.next, sL, k⟩])) ((H.push (.list [.obj sL, ogS k.pk])).set fL (.list (keysV fs ++ [.obj H.next]))) := by
  have h1 := s.push (o := .list [.obj sL, ogS k.pk])
  rw [List.append_assoc] at h1
  have h3 := Sep.set (A := []) (h1.perm (List.Perm.append_left _ (List.Perm.swap _ _ _))) (.list (keysV fs ++ [.obj H.next]))
  rw [FP, keysV_app, List.flatMap_append]
  exact h3
noncomputable def NK.pkd (y : NK) : NK := ⟨y.kx, y.rx, ⟨y.k.rows, true⟩⟩
theorem FP.setPk {H0 H : PH} {fL : Nat} {A B : List NK} {y : NK} (s : Sep H0 (FP fL (A ++ y :: B)) H) : Sep H0 (FP fL (A ++ y.pkd :: B)) (H.set y.kx (.list [.obj y.rx, ogS true])) := by
  have e : ∀ z : NK, z.kx = y.kx → z.rx = y.rx → z.k.rows = y.k.rows → FP fL (A ++ z :: B) = ((fL, .list (keysV (A ++ y :: B))) :: A.flatMap NK.ps) ++ (y.kx, .list [.obj y.rx, ogS z.k.pk]) :: (y.rx, rowsV y.k.rows) :: B.flatMap NK.ps := fun z h1 h2 h3 => by
    have h : keysV (A ++ z :: B) = keysV (A ++ y :: B) := by simp only [keysV, List.map_append, List.map_cons, h1]
    rw [FP, h, List.flatMap_append, List.flatMap_cons, NK.ps, h1, h2, h3]
    rfl
  rw [e y rfl rfl rfl] at s
  rw [e y.pkd rfl rfl rfl]
  exact s.set _
noncomputable def sRow (cols : List DC) (r : Row) : Row := settleRow (cols.map DC.fin) (foldRow r)
noncomputable def sKey (cols : List DC) (k : Key) : Key := ⟨k.rows.map (sRow cols), k.pk⟩
noncomputable def likeL {α : Type} (p : α → Bool) : Nat → List α → List Nat
  | _, [] => []
  | i, y :: ys => bif p y then i :: likeL p (i + 1) ys else likeL p (i + 1) ys
theorem likeL_head {α : Type} {p : α → Bool} : ∀ (ys : List α) (i : Nat), (likeL p i ys).head? = (ys.findIdx? p).map (· + i)
  | [], i => rfl
  | y :: ys, i => by
    rw [likeL, List.findIdx?_cons]
    cases p y with
    | true => exact congrArg some (Nat.zero_add i).symm
    | false =>
      show (likeL p (i + 1) ys).head? = _
      rw [likeL_head ys (i + 1)]
      show _ = Option.map (· + i) (Option.map (· + 1) (ys.findIdx? p))
      rw [Option.map_map]
      exact congrArg (Option.map · _) (funext fun j => by show j + (i + 1) = j + 1 + i; omega)
theorem likeL_len {α : Type} {p : α → Bool} : ∀ (ys : List α) (i : Nat), (likeL p i ys).length ≤ ys.length
  | [], i => Nat.le_refl _
  | y :: ys, i => by
    rw [likeL]
    cases p y with
    | true => exact Nat.succ_le_succ (likeL_len ys (i + 1))
    | false => exact Nat.le_succ_of_le (likeL_len ys (i + 1))
structure AuI (H1 : PH) (D : ND) (fL sL : Nat) (fs : List NK) (rows : List Row) (og : PV) (rid : Option Nat) (rx : Nat) (done q : List Row) (ℓ : Loc) (H' : PH) : Prop where
  e : rows = done ++ q
  s : Sep H1 (FP fL fs ++ [(sL, rowsV (done.map (sRow (D.cols.map (·.dc)))))]) H'
  l : (ℓ "settled" = some (.obj sL) ∧ ℓ "drawn" = some (.obj D.ix)) ∧ ℓ "found" = some (.obj fL) ∧ ℓ "rowid" = some (optI rid) ∧ ℓ "origin" = some og ∧ ℓ "rows" = some (.obj rx)
structure AuO (H1 : PH) (D : ND) (fL : Nat) (ks : List NK) (rid : Option Nat) (fin : List Key) (q fs : List NK) (ℓ : Loc) (H' : PH) : Prop where
  mem : ∀ x ∈ q, x ∈ ks
  s : Sep H1 (FP fL fs) H'
  f : (q.map fun x => sKey (D.cols.map (·.dc)) x.k).foldl (settleStep rid) (fs.map (·.k)) = fin
  len : fs.length + q.length ≤ 50
  r4 : ∀ x ∈ fs, x.k.rows.length ≤ 4
  l : ℓ "drawn" = some (.obj D.ix) ∧ ℓ "found" = some (.obj fL) ∧ ℓ "rowid" = some (optI rid)
noncomputable def headsV (rows : List Row) : PO := .list (rows.map headV)
structure AuH (Hs : PH) (fs : List NK) (P : List (Nat × NK)) (q : List NK) (a : List PV) (H' : PH) : Prop where
  e : a = P.map fun p => PV.obj p.1
  pq : P.map (·.2) ++ q = fs
  g : Ge Hs H'
  ok : ∀ p ∈ P, At H' p.1 (headsV p.2.k.rows)
structure AuL (Hs : PH) (sL : Nat) (p : NK → Bool) (fs : List NK) (P q : List (Nat × NK)) (i : Nat) (a : List PV) (ℓ : Loc) (H' : PH) : Prop where
  e : a ++ (likeL p i (q.map (·.2))).map (fun i : Nat => PV.int i) = (likeL p 0 fs).map (fun i : Nat => PV.int i)
  mem : ∀ x ∈ q, x ∈ P
  g : Ge Hs H'
  l : ℓ "settled" = some (.obj sL)
structure AutosAt (lo : Nat) (H : PH) (i : Nat) (fs : List NK) (ks : List Key) : Prop where
  a : At H i (.list (keysV fs))
  e : fs.map (·.k) = ks
  ok : ∀ x ∈ fs, x.at H ∧ lo ≤ x.rx
noncomputable def keysOk (m : Nat) (ks : List Key) : Prop := ks.length ≤ 8 ∧ ∀ k ∈ ks, k.rows.length ≤ 4 ∧ ∀ r ∈ k.rows, rowV m r
theorem NCol.at.ge {lo : Nat} {H H' : PH} {c : NCol} (h : NCol.at lo H c) (g : Ge H H') : NCol.at lo H' c := ⟨h.li, h.ai.ge g, h.lr, h.ar.ge g⟩
end Mine
namespace Mine
open PySem
section
variable {Q : KV} {H : PH} {n lo : Nat}
theorem aut_W {D : ND} {A : Acc} (hD : D.at lo H) (hv : DV D.nm (D.cols.map (·.dc)) (D.rules.map (·.dr))) (hA : (evL (D.cols.map (·.dc)) (D.rules.map (·.dr))).foldl Acc.step Acc.z = A) (hk : keysOk D.cols.length A.keys)
    (hQ : ∀ H' i fs, Ge H H' → AutosAt H.next H' i fs ((A.keys.map (sKey (D.cols.map (·.dc)))).foldl (settleStep A.rowid) []) → Q (.obj i) H') : CallC (lv (n + 30)) 956 [.obj D.ix] Q H := by
  have hle := hv.le
  rw [List.length_map] at hle
  refine aut_c (key_W (n := n + 7) hD hv fun H1 i pL kL ks g K => ?_)
  rw [hA] at K
  have hksl : ks.length ≤ 8 := by have := hk.1; rw [← K.e, List.length_map] at this; exact this
  have kl : (keysV ks).length ≤ 1000 := by rw [keysV, List.length_map]; omega
  refine e_itemsL K.a (e_unp3 (e_al rfl (e_srcL K.k.push kl ?_)))
  have s0 : Sep H1 (FP H1.next []) (H1.push (.list [])) := (Sep.nil (H0 := H1) .refl).push
  obtain ⟨cols, hcols⟩ : ∃ cols, cols = D.cols.map (·.dc) := ⟨_, rfl⟩
  rw [← hcols] at hQ
  obtain ⟨fin, hfin⟩ : ∃ fin, fin = (A.keys.map (sKey cols)).foldl (settleStep A.rowid) [] := ⟨_, rfl⟩
  rw [← hfin] at hQ
  refine loopF_r (fun r ℓ H' => ∃ q fs, r = keysV q ∧ AuO H1 D H1.next ks A.rowid fin q fs ℓ H') (fun r ℓ H' ⟨_, _, _, I⟩ => (K.k.ge I.s.ge).get) ?_ ?_ ⟨ks, [], rfl, fun x h => h, s0, by rw [hfin, ← K.e, hcols, List.map_map]; rfl, by rw [List.length_nil]; omega, (fun _ h => nomatch h), rfl, rfl, rfl⟩
  · rintro v r ℓ H2 k ⟨q, fs, hr, I⟩ hk'
    obtain ⟨x, q, rfl, rfl, rfl⟩ := map_cons_inv hr
    have hxm := I.mem x (.head _)
    have hka := K.ks x hxm
    have hkv := hk.2 x.k (by rw [← K.e]; exact List.mem_map_of_mem hxm)
    have hr4 := hkv.1
    have hlen := I.len
    rw [List.length_cons] at hlen
    have hf := I.f
    rw [List.map_cons, List.foldl_cons, ← hcols] at hf
    have a2 := hka.r.ge I.s.ge
    have xl : (x.k.rows.map Row.pv).length ≤ 1000 := by rw [List.length_map]; omega
    refine e_itemsL (hka.a.ge I.s.ge) (e_unp2 (e_al rfl (e_srcL a2.push xl ?_)))
    refine loopF_r (fun r ℓ H' => ∃ done qr, r = qr.map Row.pv ∧ AuI H1 D H1.next H2.next fs x.k.rows (ogS x.k.pk) A.rowid x.rx done qr ℓ H') (fun r ℓ H' ⟨_, _, _, J⟩ => (hka.r.ge J.s.ge).get) ?_ ?_ ⟨[], x.k.rows, rfl, rfl, I.s.push, ⟨rfl, I.l.1⟩, I.l.2.1, I.l.2.2, rfl, rfl⟩
    · rintro v r ℓ1 H3 k1 ⟨done, qr, hr, J⟩ hk1
      obtain ⟨r0, qr, rfl, rfl, rfl⟩ := map_cons_inv hr
      have hrv := hkv.2 r0 (by rw [J.e]; exact List.mem_append_right _ (.head _))
      obtain ⟨c, hc⟩ : ∃ c, D.cols[r0.pl]? = some c := ⟨_, List.getElem?_eq_getElem hrv.1⟩
      have hm := List.mem_of_getElem? hc
      have hct := hv.cty c.dc (List.mem_map_of_mem hm)
      have gg := g.trans J.s.ge
      have aS : At H3 H2.next (rowsV (done.map (sRow (D.cols.map (·.dc))))) := J.s.at_ (List.mem_append_right _ (.head _))
      have hown : ownS c.dc.rules ∈ colls := own_in _ _ (.tail _ (.tail _ (.head _))) hct.2.ok
      have hdl : done.length ≤ 4 := by have := congrArg List.length J.e; rw [List.length_append] at this; omega
      have fin1 : ∀ w, w ∈ (("NoCase" : Str) :: colls) → sRow (D.cols.map (·.dc)) r0 = ⟨r0.pl, some (foldP w), r0.de⟩ → aut3 n k1 (.int r0.pl) (.bool r0.de) (.obj H2.next) (.lst H2.next) ℓ1 (optS r0.co) (.str (ownS c.dc.rules)) (.str w) H3 := fun w hw e => by
        obtain ⟨w1, w2, w3⟩ := collLow hw
        refine e_calS (.inl rfl) (e_lower w1 (Nat.le_trans w3 (by decide)) (e_tp rfl (e_append aS (by rw [List.length_map, List.length_map]; omega) (e_none (hk1 _ _ ⟨done ++ [r0], qr, rfl, ?_⟩)))))
        have s4 := Sep.set J.s (rowsV ((done ++ [r0]).map (sRow (D.cols.map (·.dc)))))
        refine ⟨by rw [J.e, List.append_assoc]; rfl, ?_, J.l⟩
        refine Eq.mp ?_ s4
        rw [rowsV, List.map_append, List.map_append, List.map_cons, List.map_nil, List.map_cons, List.map_nil, e, w2]
        rfl
      refine e_itemsT (e_unp3 (e_opt J.l.1.2 (e_subsL 1 rfl (hD.ai.ge gg) (by decide) rfl (e_subs (k := r0.pl) (hD.ac.ge gg) (by have := hrv.1; omega) (by rw [List.getElem?_map, hc]; rfl) (det_W (n := n + 15) ((hD.co c hm).ge gg) hct.2.len ?_)))))
      rw [own_det]
      have hfo : ((D.cols.map (·.dc)).map DC.fin)[r0.pl]? = some c.dc.fin := by rw [List.getElem?_map, List.getElem?_map, hc]; rfl
      refine e_opt J.l.1.1 (e_calL aS (.inl rfl) ?_)
      obtain ⟨pl, co, de⟩ := r0
      rcases hrv.2 with h | h
      · have h : co = none := h
        subst h
        refine e_isN (fin1 _ (.tail _ hown) ?_)
        show Row.mk pl (some ((((D.cols.map (·.dc)).map DC.fin)[pl]?.map (·.co)).getD "")) de = _
        rw [hfo]
        exact congrArg (fun s => Row.mk pl (some s) de) (fin_own c.dc)
      · have h : co = some "NoCase" := h
        subst h
        exact e_isS rfl (fin1 _ (.head _) rfl)
    · rintro ℓ1 H3 ⟨done, qr, hr, J⟩
      cases map_nil_inv hr
      have hrows := J.e
      rw [List.append_nil] at hrows
      have s3 := J.s
      rw [← hrows, ← hcols] at s3
      have ax3 := hka.r.ge s3.ge
      have hpk : (sKey cols x.k).rows.map (fun r => some r.pl) = x.k.rows.map (fun r => some r.pl) := by
        rw [sKey, List.map_map]; rfl
      refine e_opt J.l.2.2.2.2 (e_srcL ax3 xl (mapC_r (F := Row.pv) (fun r : Row => PV.int r.pl) (fun _ => True) True.intro ax3.get (fun r _ ℓ _ k hk => e_row0 (hk _ True.intro)) (e_alloc (by rw [List.length_map]; omega) (e_opt J.l.2.2.1 (e_al rfl ?_)))))
      have s5 := s3.mono (Ge.push' (o := .list [optI A.rowid]) (.push (o := .list (x.k.rows.map fun r : Row => PV.int r.pl))))
      refine e_ne rfl (eqL (as := x.k.rows) (bs := [A.rowid]) (f := fun r => .int r.pl) (g := optI) (fun r => some r.pl) id (Nat.ne_of_lt (Nat.lt_succ_self _)) (.push .new) .new (fun a _ b _ k hk => ?_) (by omega)) ?_
      · obtain ⟨k, rfl⟩ : ∃ m, k = m + 1 := ⟨k - 1, by omega⟩
        exact eq_optI
      generalize (H3.push (.list (x.k.rows.map fun r : Row => PV.int r.pl))).push (.list [optI A.rowid]) = H5 at s5 ⊢
      rw [List.map_cons, List.map_nil, id]
      have lO := And.intro J.l.1.2 (And.intro J.l.2.1 J.l.2.2.1)
      refine c_if (fun hp => ?_) fun hp => ?_
      · rw [settleStep, if_pos (by rw [hpk]; exact hp)] at hf
        exact hk' _ _ ⟨q, fs, rfl, fun y hy => I.mem y (.tail _ hy), s5.sub (List.sublist_append_left _ _), by rw [← hcols]; exact hf, by omega, I.r4, lO⟩
      have ff5 : At H5 H1.next (.list (keysV fs)) := s5.at_ (List.mem_append_left _ (.head _))
      have fl : (keysV fs).length ≤ 1000 := by rw [keysV, List.length_map]; omega
      refine e_opt J.l.2.1 (e_srcL ff5 fl ?_)
      refine loopC_r (fun r a ℓ H6 => ∃ P qq, r = keysV qq ∧ AuH H5 fs P qq a H6) (fun r a ℓ H6 ⟨_, _, _, L⟩ => (ff5.ge L.g).get) ?_ ?_ ⟨[], fs, rfl, rfl, rfl, .refl, (fun _ h => nomatch h)⟩
      · rintro v r a ℓ2 H6 kc ⟨P, qq, hr, L⟩ hkc
        obtain ⟨y, qq, rfl, rfl, rfl⟩ := map_cons_inv hr
        have hym : y ∈ fs := by rw [← L.pq]; exact List.mem_append_right _ (.head _)
        have s6 := s5.mono L.g
        have ay := s6.at_ (List.mem_append_left _ (FP.m (fL := H1.next) hym (.head _)))
        have ar := s6.at_ (List.mem_append_left _ (FP.m (fL := H1.next) hym (.tail _ (.head _))))
        have hy4 := I.r4 y hym
        refine e_subsL 0 rfl ay (by decide) rfl (e_srcL ar (by rw [List.length_map]; omega) (mapC_r (F := Row.pv) headV (fun _ => True) True.intro ar.get (fun r _ ℓ _ k hk => e_rowH (hk _ True.intro)) (e_alloc (by rw [List.length_map]; omega) (hkc _ _ _ ⟨P ++ [(H6.next, y)], qq, rfl, by rw [L.e, List.map_append]; rfl, by rw [List.map_append, List.append_assoc]; exact L.pq, L.g.push', fun p hp' => ?_⟩))))
        rcases List.mem_append.mp hp' with h | h
        · exact (L.ok p h).push
        · rw [List.mem_singleton.mp h]; exact .new
      · rintro b ℓ2 H6 ⟨P, qq, hr, L⟩
        cases map_nil_inv hr
        have hPq : P.map (·.2) = fs := by have := L.pq; rwa [List.append_nil] at this
        have hPl : P.length = fs.length := by rw [← hPq, List.length_map]
        have hb : b = P.map fun p => PV.obj p.1 := L.e
        rw [hb]
        have Pl : (P.map fun p => PV.obj p.1).length ≤ 1000 := by rw [List.length_map]; omega
        have s7 := s5.mono (L.g.push' (o := .list (P.map fun p => PV.obj p.1)))
        have hP7 : ∀ p ∈ P, At (H6.push (.list (P.map fun p => PV.obj p.1))) p.1 (headsV p.2.k.rows) := fun p hp => (L.ok p hp).push
        have fh7 : At (H6.push (.list (P.map fun p => PV.obj p.1))) H6.next (.list (P.map fun p => PV.obj p.1)) := .new
        refine e_alloc Pl (e_enum fh7 Pl ?_)
        generalize H6.push (.list (P.map fun p => PV.obj p.1)) = H7 at s7 hP7 fh7 ⊢
        obtain ⟨pr, hpr⟩ : ∃ pr : NK → Bool, pr = fun f => decide ((sKey cols x.k).heads = f.k.heads) := ⟨_, rfl⟩
        refine loopC_r (fun r a ℓ H8 => ∃ q i, r = enumL i (q.map fun p => PV.obj p.1) ∧ AuL H7 H2.next pr fs P q i a ℓ H8) (fun r a ℓ H8 ⟨_, _, _, M⟩ => (fh7.ge M.g).get) ?_ ?_ ⟨P, 0, rfl, by rw [hPq]; rfl, fun x h => h, .refl, J.l.1.1⟩
        · rintro v r a ℓ3 H8 kc ⟨qp, i, hr, M⟩ hkc
          cases qp with
          | nil => exact nomatch hr
          | cons hy qp =>
            obtain ⟨h, y⟩ := hy
            injection hr with e1 e2
            subst e1 e2
            have hyP := M.mem (h, y) (.head _)
            have hym : y ∈ fs := by rw [← hPq]; exact List.mem_map_of_mem hyP
            have hy4 := I.r4 y hym
            have ah : At H8 h (headsV y.k.rows) := (hP7 _ hyP).ge M.g
            have s8 := s7.mono M.g
            have as8 : At H8 H2.next (rowsV (x.k.rows.map (sRow cols))) := s8.at_ (List.mem_append_right _ (.head _))
            have sl : ((x.k.rows.map (sRow cols)).map Row.pv).length ≤ 1000 := by rw [List.length_map, List.length_map]; omega
            refine e_itemsT (e_unp2 (e_opt M.l (e_srcL as8 sl (mapC_r (F := Row.pv) headV (fun _ => True) True.intro as8.get (fun r _ ℓ _ k hk => e_rowH (hk _ True.intro)) (e_alloc (by rw [List.length_map, List.length_map]; omega) ?_)))))
            refine e_eq (eqL (as := y.k.rows) (bs := x.k.rows.map (sRow cols)) (f := headV) (g := headV) headO headO (Nat.ne_of_lt ah.lt) ah.push .new (fun a _ b _ k hk => eq_head hk) (by omega)) ?_
            have hdec : decide (y.k.rows.map headO = (x.k.rows.map (sRow cols)).map headO) = pr y := by
              rw [hpr]; exact decide_eq_decide.mpr ⟨fun e => e.symm, fun e => e.symm⟩
            rw [hdec]
            have ha := M.e
            rw [List.map_cons, likeL] at ha
            cases hb : pr y with
            | false => rw [hb] at ha; exact hkc _ _ _ ⟨qp, i + 1, rfl, by rw [List.append_nil]; exact ha, fun x hx => M.mem x (.tail _ hx), M.g.push', M.l⟩
            | true => rw [hb] at ha; exact hkc _ _ _ ⟨qp, i + 1, rfl, by rw [List.append_assoc]; exact ha, fun x hx => M.mem x (.tail _ hx), M.g.push', M.l⟩
        · rintro b ℓ3 H8 ⟨qp, i, hr, M⟩
          cases qp with
          | cons hy qp => exact nomatch hr
          | nil =>
            have hb : b ++ [] = (likeL pr 0 fs).map (fun i : Nat => PV.int i) := M.e
            rw [List.append_nil] at hb
            rw [hb]
            have hhd := likeL_head (p := pr) fs 0
            have hll := likeL_len (p := pr) fs 0
            have hst : settleStep A.rowid (fs.map (·.k)) (sKey cols x.k) = match (likeL pr 0 fs).head? with
                | none => fs.map (·.k) ++ [sKey cols x.k]
                | some i => if x.k.pk then (fs.map (·.k)).modify i (fun f => {f with pk := true}) else fs.map (·.k) := by
              have e0 : Option.map (· + 0) (fs.findIdx? pr) = fs.findIdx? pr := by cases fs.findIdx? pr <;> rfl
              rw [settleStep, if_neg (by rw [hpk]; exact hp), hhd, e0, List.findIdx?_map, hpr]
              rfl
            rw [hst] at hf
            generalize likeL pr 0 fs = LL at hst hf hll hhd ⊢
            have s8 := s7.mono M.g
            refine e_alloc (by rw [List.length_map]; omega) (e_al rfl (e_eq (eqE (Nat.ne_of_lt (Nat.lt_succ_self _)) (.push .new) .new) ?_))
            have s9 := s8.mono (Ge.push' (o := .list []) (.push (o := .list (LL.map fun i : Nat => PV.int i))))
            have aL9 : At ((H8.push (.list (LL.map fun i : Nat => PV.int i))).push (.list [])) H8.next (.list (LL.map fun i : Nat => PV.int i)) := .push .new
            generalize (H8.push (.list (LL.map fun i : Nat => PV.int i))).push (.list []) = H9 at s9 aL9 ⊢
            have ff9 : At H9 H1.next (.list (keysV fs)) := s9.at_ (List.mem_append_left _ (.head _))
            cases LL with
            | nil =>
              have hf : (q.map fun x => sKey cols x.k).foldl (settleStep A.rowid) (fs.map (·.k) ++ [sKey cols x.k]) = fin := hf
              have s10 := FP.add (k := sKey cols x.k) s9
              refine e_opt J.l.2.1 (e_calL ff9 (.inl rfl) (e_opt J.l.1.1 (e_opt J.l.2.2.2.1 (e_al rfl (e_append ff9.push (by rw [keysV, List.length_map]; omega) (e_none (hk' _ _ ⟨q, fs ++ [⟨H9.next, H2.next, sKey cols x.k⟩], rfl, fun y hy => I.mem y (.tail _ hy), s10, by rw [List.map_append, ← hcols]; exact hf, by rw [List.length_append, List.length_singleton]; omega, fun y hy => ?_, lO⟩)))))))
              rcases List.mem_append.mp hy with h | h
              · exact I.r4 y h
              · rw [List.mem_singleton.mp h]
                show (x.k.rows.map (sRow cols)).length ≤ 4
                rw [List.length_map]; exact hr4
            | cons i0 LL =>
              have hf : (q.map fun x => sKey cols x.k).foldl (settleStep A.rowid) (if x.k.pk then (fs.map (·.k)).modify i0 (fun f => {f with pk := true}) else fs.map (·.k)) = fin := hf
              have hi0 : i0 < fs.length := by
                cases hfi : fs.findIdx? pr with
                | none => rw [hfi] at hhd; exact nomatch hhd
                | some j =>
                  rw [hfi] at hhd
                  have : i0 = j + 0 := Option.some.inj hhd
                  rw [List.findIdx?_eq_some_iff_getElem] at hfi
                  obtain ⟨h, _⟩ := hfi
                  omega
              obtain ⟨y, hy'⟩ : ∃ y, fs[i0] = y := ⟨_, rfl⟩
              have hy : fs[i0]? = some y := by rw [List.getElem?_eq_getElem hi0, hy']
              have hym := List.mem_of_getElem? hy
              have hAB : fs = fs.take i0 ++ y :: fs.drop (i0 + 1) := by rw [← hy', List.getElem_cons_drop, List.take_append_drop]
              have hAl : (fs.take i0).length = i0 := by rw [List.length_take]; omega
              have ay := s9.at_ (List.mem_append_left _ (FP.m (fL := H1.next) hym (.head _)))
              have s10 := s9.sub (List.sublist_append_left _ _)
              refine e_opt J.l.2.2.2.1 (e_eq (r := x.k.pk) (by cases x.k.pk <;> kernel_rfl) ?_)
              cases hpk2 : x.k.pk with
              | false =>
                rw [hpk2] at hf
                exact hk' _ _ ⟨q, fs, rfl, fun y hy => I.mem y (.tail _ hy), s10, by rw [← hcols]; exact hf, by omega, I.r4, lO⟩
              | true =>
                rw [hpk2, if_pos rfl] at hf
                refine e_opt J.l.2.1 (e_subsL 0 rfl aL9 (by decide) rfl (e_subs (k := i0) ff9 (by omega) (by rw [keysV, List.getElem?_map, hy]; rfl) (e_setItemL 1 rfl ay (by decide) (Nat.le_of_ble_eq_true rfl) ?_)))
                have hmod := modify_mid (f := fun f : Key => {f with pk := true}) (x := y.k) (B := (fs.drop (i0 + 1)).map (·.k)) ((fs.take i0).map (·.k))
                rw [List.length_map, hAl] at hmod
                have e2 : fs.map (·.k) = (fs.take i0).map (·.k) ++ y.k :: (fs.drop (i0 + 1)).map (·.k) := by
                  conv => lhs; rw [hAB]
                  rw [List.map_append, List.map_cons]
                rw [e2, hmod] at hf
                have hl9 : (fs.take i0).length + (fs.drop (i0 + 1)).length + 1 = fs.length := by rw [List.length_take, List.length_drop]; omega
                rw [hAB] at s10
                refine hk' _ _ ⟨q, fs.take i0 ++ y.pkd :: fs.drop (i0 + 1), rfl, fun y hy => I.mem y (.tail _ hy), FP.setPk s10, by rw [List.map_append, List.map_cons, ← hcols]; exact hf, by rw [List.length_append, List.length_cons]; omega, fun y' hy2 => ?_, lO⟩
                rcases List.mem_append.mp hy2 with h | h
                · exact I.r4 y' (List.mem_of_mem_take h)
                · rcases List.mem_cons.mp h with rfl | h
                  · exact I.r4 y hym
                  · exact I.r4 y' (List.mem_of_mem_drop h)
  · rintro ℓ H2 ⟨q, fs, hr, I⟩
    cases map_nil_inv hr
    have s := I.s
    refine e_opt I.l.2.1 (hQ _ _ fs (g.trans s.ge) ⟨s.at_ (.head _), I.f, fun x hx => ⟨⟨s.at_ (FP.m hx (.head _)), s.at_ (FP.m hx (.tail _ (.head _)))⟩, Nat.le_trans g.le (s.all _ (FP.m hx (.tail _ (.head _)))).1⟩⟩)
end
end Mine
namespace Mine
open PySem
noncomputable def isNn : Rule → Bool
  | .nn => true
  | _ => false
noncomputable def isDf : Rule → Bool
  | .dflt _ => true
  | _ => false
theorem fin_nn : ∀ (rs : List Rule) (c : PC), (rs.foldl PC.app c).nn = (c.nn || rs.any isNn)
  | [], c => (Bool.or_false _).symm
  | r :: rs, c => by
    rw [List.foldl_cons, fin_nn rs, List.any_cons, ← Bool.or_assoc]
    cases r <;> first | (show (c.nn || _) = ((c.nn || false) || _); rw [Bool.or_false]) | (show (true || _) = ((c.nn || true) || _); rw [Bool.or_true])
theorem fin_dx : ∀ (rs : List Rule) (c : PC), (rs.foldl PC.app c).dx.isSome = (c.dx.isSome || rs.any isDf)
  | [], c => (Bool.or_false _).symm
  | r :: rs, c => by
    rw [List.foldl_cons, fin_dx rs, List.any_cons, ← Bool.or_assoc]
    cases r <;> first | (show (c.dx.isSome || _) = ((c.dx.isSome || false) || _); rw [Bool.or_false]) | (show (true || _) = ((c.dx.isSome || true) || _); rw [Bool.or_true])
theorem key_df (r : Rule) : (r.key == ("default" : Str)) = isDf r := by cases r <;> kernel_rfl
theorem fin_det : ∀ (rs : List Rule) (c : PC), detP "default" (c.dx.getD (.int 0)) rs = (rs.foldl PC.app c).dx.getD (.int 0)
  | [], c => rfl
  | r :: rs, c => by
    rw [List.foldl_cons, ← fin_det rs, detP, List.foldl_cons, key_df]
    cases r <;> rfl
theorem fin_in : ∀ (rs : List Rule) (c : PC), (∀ v, c.dx = some v → v ∈ dflts) → (∀ r ∈ rs, RuleV r) → ∀ v, (rs.foldl PC.app c).dx = some v → v ∈ dflts
  | [], c, h, _ => h
  | r :: rs, c, h, hv => by
    refine fin_in rs _ ?_ (fun x hx => hv x (.tail _ hx))
    have h0 := hv r (.head _)
    cases r with
    | dflt x => intro v e; exact Option.some.inj e ▸ h0
    | _ => exact h
theorem nn1 {H : PH} {r : Rule} (h : RuleV r) : eqP H 40 r.pv (.tup [.str "not null", .none]) = some (isNn r) := by
  cases r with
  | dflt v =>
    have h : v ∈ [.int 5, .str "x y", .none, .bytes [122].toArray] := h
    rcases List.mem_cons.mp h with rfl | h
    · kernel_rfl
    rcases List.mem_cons.mp h with rfl | h
    · kernel_rfl
    rcases List.mem_cons.mp h with rfl | h
    · kernel_rfl
    cases List.mem_singleton.mp h
    kernel_rfl
  | _ => kernel_rfl
theorem nnIn {H : PH} : ∀ rs : List Rule, (∀ r ∈ rs, RuleV r) → anyIn H (.tup [.str "not null", .none]) (rs.map Rule.pv) = some (rs.any isNn)
  | [], _ => rfl
  | r :: rs, hv => by
    rw [List.map_cons, anyIn, nn1 (hv r (.head _)), nnIn rs fun x hx => hv x (.tail _ hx)]
    rfl
theorem dfIn {H : PH} : ∀ rs : List Rule, anyIn H (.str "default") (rs.map fun r => PV.str r.key) = some (rs.any isDf)
  | [] => rfl
  | r :: rs => by
    have e : eqP H 40 (.str r.key) (.str "default") = some (isDf r) := congrArg some (key_df r)
    rw [List.map_cons, anyIn, e, dfIn rs]
    rfl
theorem reprV {v : PV} (h : v ∈ dflts) : ∃ s, reprP v = some s :=
  Option.isSome_iff_exists.mp (List.all_eq_true.mp (by kernel_rfl : dflts.all (fun v => (reprP v).isSome) = true) v h)
noncomputable def isM1 : PV → Bool
  | .int j => j == -1
  | _ => false
theorem isM1_eq {v : PV} (h : isM1 v = true) : v = .int (-1) := by
  cases v <;> first | exact congrArg PV.int (eq_of_beq h) | exact Bool.noConfusion h
noncomputable def placeD (k : Nat) : Bool := isM1 (placeP (cnames.take k) "RowId") && isM1 (placeP (cnames.take k) "oid") && isNo (placeP (cnames.take k) "zz") && (List.range k).all fun i => match (cnames.take k)[i]? with
  | some nm => asciiP nm && decide (nm.length ≤ 100) && decide ((uppP nm).length ≤ 100) && isIt (placeP (cnames.take k) (uppP nm)) i
  | none => true
theorem placeD_ok {k : Nat} (hk : k ≤ 4) : placeD k = true := List.all_eq_true.mp (by kernel_rfl : (List.range 5).all placeD = true) k (List.mem_range.mpr (by omega))
theorem placeP_u {k : Nat} (hk : k ≤ 4) {i : Nat} {nm : Str} (h : (cnames.take k)[i]? = some nm) : (asciiP nm = true ∧ nm.length ≤ 100) ∧ (uppP nm).length ≤ 100 ∧ placeP (cnames.take k) (uppP nm) = .int i := by
  have hi : i < k := by
    have := (List.getElem?_eq_some_iff.mp h).1
    rw [List.length_take] at this; omega
  have h1 := placeD_ok hk
  rw [placeD, Bool.and_eq_true] at h1
  have h2 := List.all_eq_true.mp h1.2 i (List.mem_range.mpr hi)
  rw [h] at h2
  dsimp only at h2
  rw [Bool.and_eq_true, Bool.and_eq_true, Bool.and_eq_true] at h2
  exact ⟨⟨h2.1.1.1, of_decide_eq_true h2.1.1.2⟩, of_decide_eq_true h2.1.2, isIt_eq h2.2⟩
theorem placeP_r {k : Nat} (hk : k ≤ 4) : placeP (cnames.take k) "RowId" = .int (-1) ∧ placeP (cnames.take k) "oid" = .int (-1) ∧ placeP (cnames.take k) "zz" = .none := by
  have h1 := placeD_ok hk
  rw [placeD, Bool.and_eq_true, Bool.and_eq_true, Bool.and_eq_true] at h1
  exact ⟨isM1_eq h1.1.1.1, isM1_eq h1.1.1.2, isNo_eq h1.1.2⟩
theorem eq_str {H : PH} {a b : Str} {k : Nat} : eqP H (k + 1) (.str a) (.str b) = some (decide (a = b)) := by
  refine congrArg some ?_
  show (a == b) = _
  rw [Bool.eq_iff_iff, beq_iff_eq, decide_eq_true_eq]
theorem tup3 {H : PH} {a c : Str} {p : PV × Str} (hp : p ∈ tys) : eqP H 40 (.tup [.str a, p.1, .str c]) (.tup [.str a, p.1, .str c]) = some true := by
  rcases List.mem_append.mp hp with hp | hp
  · obtain ⟨q, hq, rfl⟩ := List.mem_map.mp hp
    show some (((a == a) && ((q.1 == q.1) && ((c == c) && true))) && true) = some true
    rw [beq_self_eq_true, beq_self_eq_true, beq_self_eq_true]
    rfl
  · cases List.mem_singleton.mp hp
    show some (((a == a) && (true && ((c == c) && true))) && true) = some true
    rw [beq_self_eq_true, beq_self_eq_true]
    rfl
theorem f_inL {H : PH} {j : Nat} {l : List PV} {v : PV} {r : Bool} {K : KV} (g : At H j (.list l)) (e : anyIn H v l = some r) (k : K (.bool r) H) : CmpC .In v (.obj j) K H := .inL j l r rfl rfl g.get e k
theorem ND.at.ge {lo : Nat} {H H' : PH} {D : ND} (h : D.at lo H) (g : Ge H H') : D.at lo H' := ⟨h.li, h.ai.ge g, h.lc, h.ac.ge g, h.lk, h.ak.ge g, fun c hc => (h.co c hc).ge g, fun r hr => ⟨(h.ru r hr).l, (h.ru r hr).a.ge g⟩⟩
section
variable {Q : KV} {H H0 : PH} {n lo : Nat} {F : MF} {S : MS}
theorem afs_W (s : Sep H0 (S.ps F) H) (hl : S.cols.length ≤ 100) (hQ : Q (.obj H.next) (H.push (.list (S.cols.map fun c => .str c.af)))) : CallC (lv (n + 8)) 747 [.obj F.t] Q H :=
  afs_c (e_attr (MS.ft s) (by kernel_rfl) rfl (e_srcL (MS.fc s) (by rw [colsV_len]; omega) (mapC_r (F := fun c : CS => PV.obj c.ix) (fun c : CS => PV.str c.af) (fun _ => True) True.intro (MS.fc s).get (fun c hc ℓ _ k hk => e_attr (MS.cols_ps s c hc) (by kernel_rfl) rfl (hk _ True.intro)) (e_alloc (by rw [List.length_map]; omega) hQ))))
end
end Mine
namespace Mine
open PySem
section
variable {Q : KV} {H H0 : PH} {n lo : Nat} {F : MF} {S : MS}
theorem map_get {α β γ : Type} {f : α → γ} {g : β → γ} {as : List α} {bs : List β} {i : Nat} {b : β} (h : as.map f = bs.map g) (hb : bs[i]? = some b) : ∃ a, as[i]? = some a ∧ f a = g b := by
  have h1 := congrArg (fun l => l[i]?) h
  rw [List.getElem?_map, List.getElem?_map, hb] at h1
  exact Option.map_eq_some_iff.mp h1
theorem clr_W {D : ND} (s : Sep H0 (S.ps F) H) (ok : MOk H0 S) (hcols : S.cols.map CS.p = D.cols.map (·.dc.fin)) (hD : D.at lo H) (hv : DV D.nm (D.cols.map (·.dc)) (D.rules.map (·.dr)))
    (hQ : ∀ H', Ge H H' → Q (.bool true) H') : CallC (lv (n + 40)) 961 [.obj D.ix, .obj F.t] Q H := by
  have hle := hv.le
  rw [List.length_map] at hle
  have hlen : S.cols.length = D.cols.length := by have := congrArg List.length hcols; rwa [List.length_map, List.length_map] at this
  have hcn : D.cols.map (·.dc.nm) = cnames.take D.cols.length := by
    have h3 := hv.names
    rw [List.map_map, List.length_map] at h3
    exact h3
  have hnames : S.cols.map (·.nm) = cnames.take D.cols.length := by
    have h1 := congrArg (List.map PC.nm) hcols
    rw [List.map_map, List.map_map] at h1
    exact (h1.trans (List.map_congr_left fun c _ => foldl_app.1)).trans hcn
  have haf : S.cols.map (·.af) = D.cols.map (·.dc.af) := by
    have h1 := congrArg (List.map PC.af) hcols
    rw [List.map_map, List.map_map] at h1
    exact h1.trans (List.map_congr_left fun c _ => foldl_app.2.2)
  have cl : (colsV S.cols).length ≤ 1000 := by rw [colsV_len]; omega
  have dl : (D.cols.map fun c : NCol => PV.obj c.ix).length ≤ 1000 := by rw [List.length_map]; omega
  refine clr_c (e_attr (MS.ft s) (by kernel_rfl) rfl (e_len (MS.fc s) cl (e_subsL 1 rfl hD.ai (by decide) rfl (e_len hD.ac dl (e_ne rfl (r := true) ?_ ?_)))))
  · rw [colsV_len, List.length_map, hlen]
    exact eq_int.trans (congrArg some (decide_eq_true rfl))
  refine e_meth (f := 747) (MS.ft s) rfl rfl (afs_W (n := n + 27) s (by omega) (e_subsL 1 rfl hD.ai.push (by decide) rfl (e_srcL hD.ac.push dl (mapC_r (F := fun c : NCol => PV.obj c.ix) (fun c : NCol => PV.str c.dc.af) (fun _ => True) True.intro hD.ac.push.get (fun c hc ℓ _ k hk => e_subsL 2 rfl (hD.co c hc).ai.push (by decide) rfl (hk _ True.intro)) (e_alloc (by rw [List.length_map]; omega) ?_)))))
  refine e_ne rfl (eqL (as := S.cols) (bs := D.cols) (f := fun c => .str c.af) (g := fun c : NCol => .str c.dc.af) (fun c => c.af) (fun c : NCol => c.dc.af) (Nat.ne_of_lt (Nat.lt_succ_self _)) (.push .new) .new (fun a _ b _ k hk => ?_) (by omega)) ?_
  · obtain ⟨k, rfl⟩ : ∃ m, k = m + 1 := ⟨k - 1, by omega⟩
    exact eq_str
  rw [haf, decide_eq_true rfl]
  have gB := (Ge.push (H := H) (o := .list (S.cols.map fun c => PV.str c.af))).push' (o := .list (D.cols.map fun c : NCol => PV.str c.dc.af))
  refine e_subsL 1 rfl (hD.ai.ge gB) (by decide) rfl (e_enum (hD.ac.ge gB) dl ?_)
  refine loopF_i (fun i ℓ H1 => Ge H H1 ∧ ℓ "table" = some (.obj F.t)) (fun i ℓ H1 h => (hD.ac.ge h.1).get) ?_ ?_ ⟨gB, rfl⟩
  · rintro i v ℓ H1 k hv0 ⟨g, k1⟩ hk
    obtain ⟨u, hu, rfl⟩ := enum_get _ _ _ _ hv0
    rw [List.getElem?_map] at hu
    obtain ⟨c, hc, rfl⟩ := Option.map_eq_some_iff.mp hu
    have hm := List.mem_of_getElem? hc
    have hil : i < D.cols.length := (List.getElem?_eq_some_iff.mp hc).1
    rw [Nat.zero_add]
    have s1 := s.mono g
    obtain ⟨cs, hcs, hcp⟩ := map_get hcols hc
    have hcm := List.mem_of_getElem? hcs
    have hcat : NCol.at lo H1 c := (hD.co c hm).ge g
    have hct := hv.cty c.dc (List.mem_map_of_mem hm)
    have hrl := hct.2.len
    have e_co : cs.co = foldP (ownS c.dc.rules) := (congrArg PC.co hcp).trans (fin_own c.dc)
    have e_nn : cs.nn = c.dc.rules.any isNn := (congrArg PC.nn hcp).trans (by rw [DC.fin, fin_nn]; rfl)
    have e_dx : cs.dx = c.dc.fin.dx := congrArg PC.dx hcp
    have hown : ownS c.dc.rules ∈ colls := own_in _ _ (.tail _ (.tail _ (.head _))) hct.2.ok
    obtain ⟨w1, w2, w3⟩ := collLow (.tail _ hown)
    have fcs : At H1 cs.ix (.inst 684 [("name", .str c.dc.nm), ("type_name", c.dc.ty), ("affinity", .str c.dc.af), ("collation", .str (foldP (ownS c.dc.rules))), ("not_null", .bool (c.dc.rules.any isNn)), ("default", cs.dv)]) := by
      have e1 : cs.nm = c.dc.nm := (congrArg PC.nm hcp).trans foldl_app.1
      have e2 : cs.ty = c.dc.ty := (congrArg PC.ty hcp).trans foldl_app.2.1
      have e3 : cs.af = c.dc.af := (congrArg PC.af hcp).trans foldl_app.2.2
      rw [← e1, ← e2, ← e3, ← e_co, ← e_nn]
      exact MS.cols_ps s1 cs hcm
    have hnmi : (cnames.take D.cols.length)[i]? = some c.dc.nm := by rw [← hcn, List.getElem?_map, hc]; rfl
    obtain ⟨⟨u1, u2⟩, u3, u4⟩ := placeP_u hle hnmi
    have b3 := hcat.ai
    refine e_itemsT (e_unp2 (e_opt k1 (e_attr (MS.ft s1) (by kernel_rfl) rfl (e_subs (k := i) (MS.fc s1) (by omega) (by rw [colsV, List.getElem?_map, hcs]; rfl) ?_))))
    refine e_attr fcs (by kernel_rfl) rfl (e_attr fcs (by kernel_rfl) rfl (e_attr fcs (by kernel_rfl) rfl (e_tp rfl (e_subsL 0 rfl b3 (by decide) rfl (e_subsL 1 rfl b3 (by decide) rfl (e_subsL 2 rfl b3 (by decide) rfl (e_tp rfl (e_ne rfl (tup3 (p := (c.dc.ty, c.dc.af)) hct.1) ?_))))))))
    refine e_attr fcs (by kernel_rfl) rfl (det_W (n := n + 24) hcat hrl ?_)
    rw [own_det]
    refine e_calS (.inl rfl) (e_lower w1 (by omega) (e_ne rfl (r := true) (by rw [w2]; exact eq_str.trans (congrArg some (decide_eq_true rfl))) ?_))
    refine e_attr fcs (by kernel_rfl) rfl (e_bool (e_tp rfl (e_subsL 3 rfl b3 (by decide) rfl (f_inL hcat.ar (nnIn _ hct.2.ok) (e_ne rfl (r := true) (congrArg some (beq_self_eq_true _)) ?_)))))
    refine e_opt k1 (e_meth (f := 742) (MS.ft s1) rfl rfl (e_subsL 0 rfl b3 (by decide) rfl (e_calS (.inr (.inl rfl)) (e_upper u1 (by omega) ?_))))
    refine plo_W (n := n + 10) (cs := S.cols) (MS.ft s1) rfl (MS.fc s1) (MS.cols_ps s1) ok.2 (by omega) (fun c hc => by have := (ok.1 c hc).2.1; omega) fun H2 gg => ?_
    rw [hnames, u4]
    have s2 := s1.mono gg
    have rl : (c.dc.rules.map Rule.pv).length ≤ 1000 := by rw [List.length_map]; omega
    refine e_ne rfl (r := true) (congrArg some (beq_self_eq_true _)) (e_subsL 3 rfl (b3.ge gg) (by decide) rfl (e_srcL (hcat.ar.ge gg) rl ?_))
    refine mapC_r (F := Rule.pv) (fun r : Rule => PV.str r.key) (fun _ => True) True.intro (hcat.ar.ge gg).get (fun r hr ℓ _ k hk => ?_) (e_alloc (by rw [List.length_map]; omega) (e_ninL .new (dfIn _) ?_))
    · rw [Rule.pv_eq]
      exact e_itemsT (e_unp2 (hk _ True.intro))
    have g12 := gg.push' (o := .list (c.dc.rules.map fun r => PV.str r.key))
    have hgo : ∀ ℓ' : Loc, ℓ' "table" = some (PV.obj F.t) → k ℓ' _ := fun ℓ' h => hk _ _ ⟨g.trans g12, h⟩
    have fin_is := fin_dx c.dc.rules c.dc.init
    have dvk := (ok.1 cs hcm).2.2
    rw [e_dx] at dvk
    have fcs2 := fcs.ge g12
    cases hx : c.dc.fin.dx with
    | none =>
      rw [hx] at dvk
      have dvk : cs.dv = .none := dvk
      have hx' : (c.dc.rules.foldl PC.app c.dc.init).dx = none := hx
      rw [hx'] at fin_is
      have h0 : c.dc.rules.any isDf = false := fin_is.symm
      rw [h0]
      rw [dvk] at fcs2
      exact e_attr fcs2 (by kernel_rfl) rfl (e_isntN (hgo _ k1))
    | some v =>
      rw [hx] at dvk
      obtain ⟨e, hde, hlit⟩ := dvk
      have hx' : (c.dc.rules.foldl PC.app c.dc.init).dx = some v := hx
      rw [hx'] at fin_is
      have h0 : c.dc.rules.any isDf = true := fin_is.symm
      rw [h0]
      have hvd : v ∈ dflts := fin_in c.dc.rules c.dc.init (fun _ h => nomatch h) hct.2.ok v hx'
      obtain ⟨sr, hsr⟩ := reprV hvd
      have hl3 : At _ e (.inst 144 [("value", v)]) := At.ge (s1.ge.trans g12) hlit
      have hdet := fin_det c.dc.rules c.dc.init
      rw [hx'] at hdet
      have hdet : detP "default" (.int 0) c.dc.rules = v := hdet
      rw [hde] at fcs2
      refine e_attr fcs2 (by kernel_rfl) rfl (e_attr hl3 (by kernel_rfl) rfl (e_repr hsr (det_W (n := n + 23) (hcat.ge g12) hrl ?_)))
      rw [hdet]
      exact e_repr hsr (e_ne rfl (r := true) (eq_str.trans (congrArg some (decide_eq_true rfl))) (hgo _ k1))
  · rintro ℓ H1 ⟨g, k1⟩
    have s1 := s.mono g
    obtain ⟨p1, p2, p3⟩ := placeP_r hle
    have hst : ∀ (c : CS), c ∈ S.cols → c.nm.length ≤ 1000 := fun c hc => by have := (ok.1 c hc).2.1; omega
    have go : ∀ {H2 : PH} {w : Str} {K : KV} {p : PV}, Ge H1 H2 → placeP (cnames.take D.cols.length) w = p → w.length ≤ 1000 → (∀ H3, Ge H1 H3 → K p H3) → CalleeC (.obj F.t) "place_of" (fun c H => applyC (lv (n + 35)) (.obj F.t) "place_of" [.str w] c K H) H2 := fun {H2 w K p} g2 hp hw hK => by
      have s2 := s1.mono g2
      refine e_meth (f := 742) (MS.ft s2) rfl rfl (plo_W (n := n + 11) (cs := S.cols) (MS.ft s2) rfl (MS.fc s2) (MS.cols_ps s2) ok.2 hw hst fun H3 g3 => ?_)
      rw [hnames, hp]
      exact hK _ (g2.trans g3)
    refine e_opt k1 (go .refl p1 (by decide) fun H2 g2 => e_neg (f_eq (r := true) rfl (e_testT (e_opt k1 (go g2 p2 (by decide) fun H3 g3 => e_neg (f_eq (r := true) rfl (e_testT (e_opt k1 (go g3 p3 (by decide) fun H4 g4 => ?_)))))))))
    exact .is_ rfl rfl rfl (hQ _ (g.trans g4))
end
end Mine
namespace Mine
open PySem
theorem eqLn {α β γ : Type} [DecidableEq γ] {H : PH} {i j n : Nat} {as : List α} {bs : List β} {f : α → PV} {g : β → PV} (u : α → γ) (v : β → γ) (hij : i ≠ j) (hi : At H i (.list (as.map f))) (hj : At H j (.list (bs.map g)))
    (hp : ∀ a ∈ as, ∀ b ∈ bs, ∀ k, 8 ≤ k → eqP H k (f a) (g b) = some (decide (u a = v b))) (hl : as.length + 8 < n) (h : as.map u = bs.map v) : eqP H (n + 1) (.obj i) (.obj j) = some true := by
  have hlen : as.length = bs.length := by have := congrArg List.length h; rwa [List.length_map, List.length_map] at this
  unfold eqP
  dsimp only
  rw [if_neg hij, hi.get, hj.get]
  dsimp only
  rw [List.length_map, List.length_map, if_pos hlen, eqAll_map (p := fun a b => decide (u a = v b)) (d := 8) as bs n hp hl, zipAll_map as bs hlen, decide_eq_true h]
theorem tup4 {H : PH} {a1 a2 a3 a4 b1 b2 b3 b4 : PV} (h1 : eqP H 38 a1 b1 = some true) (h2 : eqP H 37 a2 b2 = some true) (h3 : eqP H 36 a3 b3 = some true) (h4 : eqP H 35 a4 b4 = some true) : eqP H 40 (.tup [a1, a2, a3, a4]) (.tup [b1, b2, b3, b4]) = some true := by
  rw [eqP.eq_def]
  dsimp only
  rw [if_pos ⟨Nat.le_of_ble_eq_true rfl, Nat.le_of_ble_eq_true rfl⟩, eqAllP, eqAllP, eqAllP, eqAllP, eqAllP, h1, h2, h3, h4]
  rfl
theorem eq_row {H : PH} {a b : Row} {k : Nat} (hk : 8 ≤ k) : eqP H k a.pv b.pv = some (decide (a = b)) := by
  obtain ⟨k, rfl⟩ : ∃ m, k = m + 8 := ⟨k - 8, by omega⟩
  obtain ⟨p1, c1, d1⟩ := a
  obtain ⟨p2, c2, d2⟩ := b
  unfold Row.pv
  rw [eqP.eq_def]
  dsimp only
  rw [if_pos ⟨Nat.le_of_ble_eq_true rfl, Nat.le_of_ble_eq_true rfl⟩, eqAllP, eqAllP, eqAllP, eqAllP, eq_int, eq_optS]
  show some ((decide (p1 = p2) && (decide (c1 = c2) && ((d1 == d2) && true))) && true) = _
  refine congrArg some ?_
  rw [Bool.and_true, Bool.and_true, Bool.eq_iff_iff, Bool.and_eq_true, Bool.and_eq_true, decide_eq_true_eq, decide_eq_true_eq, decide_eq_true_eq, beq_iff_eq, Row.mk.injEq]
noncomputable def rootsL : List PV := [.int 11, .int 12, .int 13, .int 14, .int 15, .int 16, .int 17, .int 18, .int 19]
theorem root_j : ∀ j, j < 8 → rootsL[j + 1]? = some (.int ((12 + j : Nat) : Int))
  | 0, _ => rfl
  | 1, _ => rfl
  | 2, _ => rfl
  | 3, _ => rfl
  | 4, _ => rfl
  | 5, _ => rfl
  | 6, _ => rfl
  | 7, _ => rfl
  | j + 8, h => absurd h (by omega)
theorem optI_eq {H : PH} {k : Nat} {a : Option Nat} : eqP H (k + 1) (optI a) (optI a) = some true := by
  cases a with
  | none => rfl
  | some a => exact congrArg some (beq_self_eq_true (a : Int))
theorem str_eq {H : PH} {k : Nat} {a : Str} : eqP H (k + 1) (.str a) (.str a) = some true := congrArg some (beq_self_eq_true a)
theorem int_eq {H : PH} {k : Nat} {a : Int} : eqP H (k + 1) (.int a) (.int a) = some true := congrArg some (beq_self_eq_true a)
structure TrI (H : PH) (D : ND) (t rL aL : Nat) (ℓ : Loc) (H' : PH) : Prop where
  g : Ge H H'
  d : ℓ "drawn" = some (.obj D.ix)
  r : ℓ "roots" = some (.obj rL)
  a : ℓ "autos" = some (.obj aL)
section
variable {Q : KV} {H H0 : PH} {n lo : Nat} {F : MF} {S : MS}
theorem tbr_W {D : ND} {A : Acc} {rL : Nat} (s : Sep H0 (S.ps F) H) (ok : MOk H0 S) (hcols : S.cols.map CS.p = D.cols.map (·.dc.fin)) (hD : D.at lo H) (hv : DV D.nm (D.cols.map (·.dc)) (D.rules.map (·.dr)))
    (hA : (evL (D.cols.map (·.dc)) (D.rules.map (·.dr))).foldl Acc.step Acc.z = A) (hk : keysOk D.cols.length A.keys) (hpl : A.prim.length ≤ 20)
    (hnm : F.nm = D.nm) (hroot : F.root = .int 11) (hroots : F.roots = rootsL) (hrid : S.rowid = A.rowid) (hprim : S.prim = A.prim)
    (hidx : S.idx.map (·.k) = (A.keys.map (sKey (D.cols.map (·.dc)))).foldl (settleStep A.rowid) []) (hil : S.idx.length ≤ 8) (hir : ∀ x ∈ S.idx, x.k.rows.length ≤ 20)
    (hnr : ∀ (j : Nat) x, S.idx[j]? = some x → x.nm = .str (autoName F.nm j) ∧ x.rt = rootP F (j + 1)) (fr : At H rL (.list rootsL))
    (hQ : ∀ H', Ge H H' → Q (.bool true) H') : CallC (lv (n + 50)) 968 [.obj D.ix, .obj F.t, .obj rL] Q H := by
  have hle := hv.le
  rw [List.length_map] at hle
  refine tbr_c (key_W (n := n + 27) hD hv fun H1 i pL kL ks g1 K => ?_)
  rw [hA] at K
  have s1 := s.mono g1
  have hD1 := hD.ge g1
  have fr1 := fr.ge g1
  have f2 : At H1 F.t (.inst 757 [("name", .str D.nm), ("root", .int 11), ("columns", .obj F.cl), ("rowid_place", optI A.rowid), ("indexes", .obj S.il), ("checks", .obj F.kl), ("sql", F.txt), ("primary", .obj S.pl)]) := by
    rw [← hnm, ← hroot, ← hrid]; exact MS.ft s1
  refine e_itemsL K.a (e_unp3 (e_attr f2 (by kernel_rfl) rfl (e_attr f2 (by kernel_rfl) rfl (e_attr f2 (by kernel_rfl) rfl (e_attr f2 (by kernel_rfl) rfl (e_tp rfl (e_subsL 0 rfl hD1.ai (by decide) rfl (e_subsL 0 rfl fr1 (by decide) rfl (e_tp rfl ?_)))))))))
  have hne : S.pl ≠ pL := Nat.ne_of_lt (Nat.lt_of_lt_of_le (MS.fp s).lt K.lo)
  refine e_ne rfl (tup4 str_eq int_eq optI_eq (eqLn (n := 34) (as := S.prim) (bs := A.prim) (f := fun i : Nat => PV.int i) (g := fun i : Nat => PV.int i) id id hne (MS.fp s1) K.p (fun a _ b _ k hk => ?_) (by rw [hprim]; omega) (by rw [hprim]))) ?_
  · obtain ⟨k, rfl⟩ : ∃ m, k = m + 1 := ⟨k - 1, by omega⟩
    exact eq_int
  refine aut_W (n := n + 17) hD1 hv hA hk fun H2 aL fs gA W => ?_
  have s2 := s1.mono gA
  have hD2 := hD1.ge gA
  have hfs : fs.map (·.k) = S.idx.map (·.k) := W.e.trans hidx.symm
  have hfl : fs.length = S.idx.length := by have := congrArg List.length hfs; rwa [List.length_map, List.length_map] at this
  have kl : (keysV fs).length ≤ 1000 := by rw [keysV, List.length_map]; omega
  have il : (idxV S.idx).length ≤ 1000 := by rw [idxV_len]; omega
  refine e_attr (MS.ft s2) (by kernel_rfl) rfl (e_len (MS.fi s2) il (e_len W.a kl (e_ne rfl (r := true) ?_ ?_)))
  · rw [idxV_len, keysV, List.length_map, hfl]
    exact int_eq
  refine clr_W (n := n + 4) s2 ok hcols hD2 hv fun H3 g3 => e_testT ?_
  have s3 := s2.mono g3
  refine e_attr (MS.ft s3) (by kernel_rfl) rfl (e_enum (MS.fi s3) il ?_)
  refine loopF_i (fun i ℓ H' => TrI H3 D F.t rL aL ℓ H') (fun i ℓ H' h => ((MS.fi s3).ge h.g).get) ?_ (fun ℓ H4 h => hQ _ (g1.trans (gA.trans (g3.trans h.g)))) ⟨.refl, rfl, rfl, rfl⟩
  rintro j v ℓ H4 k hv0 I hgo
  obtain ⟨u, hu, rfl⟩ := enum_get _ _ _ _ hv0
  rw [idxV, List.getElem?_map] at hu
  obtain ⟨x, hx, rfl⟩ := Option.map_eq_some_iff.mp hu
  have hm := List.mem_of_getElem? hx
  have hjl : j < S.idx.length := (List.getElem?_eq_some_iff.mp hx).1
  rw [Nat.zero_add]
  have g24 := g3.trans I.g
  have s4 := s2.mono g24
  have hD4 := hD2.ge g24
  have gAll := gA.trans g24
  have fr4 := fr1.ge gAll
  have fa4 := W.a.ge g24
  obtain ⟨y, hy, hyk⟩ := map_get hfs hx
  have hym := List.mem_of_getElem? hy
  obtain ⟨⟨ya, yr⟩, y5⟩ := W.ok y hym
  have hyV : (keysV fs)[j]? = some (.obj y.kx) := by rw [keysV, List.getElem?_map, hy]; rfl
  have mR : ∀ p ∈ x.ps F.nm, p ∈ S.rest F := fun p hp => List.mem_append_right _ (List.mem_flatMap.mpr ⟨x, hm, hp⟩)
  have fx2 : At H4 x.cix (rowsV x.k.rows) := MS.fR s4 (mR (x.cix, rowsV x.k.rows) (.tail _ (.head _)))
  have fx0 : At H x.cix (rowsV x.k.rows) := MS.fR s (mR (x.cix, rowsV x.k.rows) (.tail _ (.head _)))
  obtain ⟨n1, n2⟩ := hnr j x hx
  have hrt : rootP F (j + 1) = .int ((12 + j : Nat) : Int) := by rw [rootP, hroots, root_j j (by omega)]; rfl
  have fx1 : At H4 x.ix (.inst 717 [("name", .str (autoName D.nm j)), ("table", .str D.nm), ("root", .int ((12 + j : Nat) : Int)), ("columns", .obj x.cix), ("unique", .bool true), ("origin", ogS x.k.pk), ("sql", .none)]) := by
    rw [← hnm, ← n1, ← hrt, ← n2]
    exact MS.fR s4 (mR (x.ix, x.po F.nm) (.head _))
  have hnum := num_len (j := j) (by omega)
  have hdn : D.nm.length ≤ 10 := by rcases hv.nm with h | h <;> rw [h] <;> decide
  have hl0 : (Str.ofString "pagebase_auto_").length = 14 := by kernel_rfl
  have hl3 : (Str.ofString "_").length = 1 := by kernel_rfl
  have e1 : (j : Int) + 1 = ((j + 1 : Nat) : Int) := by omega
  refine e_itemsT (e_unp2 (e_opt I.d (e_subsL 0 rfl hD4.ai (by decide) rfl (e_addS (by omega) (e_addS (by rw [Str.length_append]; omega) (e_add ?_))))))
  rw [e1]
  refine e_strT (by omega) (e_addS (by show (Str.ofString "pagebase_auto_" ++ D.nm ++ Str.ofString "_").length + (numS (j + 1)).length ≤ 1000; rw [Str.length_append, Str.length_append]; omega) ?_)
  refine e_attr fx1 (by kernel_rfl) rfl (e_attr fx1 (by kernel_rfl) rfl (e_attr fx1 (by kernel_rfl) rfl (e_attr fx1 (by kernel_rfl) rfl (e_tp rfl (e_opt I.d (e_subsL 0 rfl hD4.ai (by decide) rfl (e_opt I.r (e_add ?_))))))))
  rw [e1]
  refine e_subs (k := j + 1) fr4 (by omega) (root_j j (by omega)) (e_tp rfl (e_ne rfl (tup4 (str_eq (a := autoName D.nm j)) str_eq int_eq rfl) ?_))
  refine e_attr fx1 (by kernel_rfl) rfl (e_opt I.a (e_subs (k := j) fa4 (by omega) hyV (e_subsL 0 rfl (ya.ge g24) (by decide) rfl (e_ne rfl (eqL (as := x.k.rows) (bs := y.k.rows) (f := Row.pv) (g := Row.pv) id id (Nat.ne_of_lt (Nat.lt_of_lt_of_le fx0.lt (Nat.le_trans g1.le y5))) fx2 (yr.ge g24) (fun a _ b _ k hk => eq_row hk) (hir x hm)) ?_))))
  rw [hyk, decide_eq_true rfl]
  refine e_attr fx1 (by kernel_rfl) rfl (e_opt I.a (e_subs (k := j) fa4 (by omega) hyV (e_subsL 1 rfl (ya.ge g24) (by decide) rfl (e_ne rfl (r := true) ?_ (e_attr fx1 (by kernel_rfl) rfl (.isntB true true rfl rfl rfl (hgo _ _ ⟨I.g, I.d, I.r, I.a⟩)))))))
  rw [hyk]
  exact str_eq
end
end Mine
namespace Mine
open PySem
noncomputable def foldKey (k : Key) : Key := ⟨k.rows.map foldRow, k.pk⟩
noncomputable def mapEv : Evn → Evn
  | .oth => .oth
  | .uq rows => .uq (rows.map foldRow)
  | .pk rows b => .pk (rows.map foldRow) b
noncomputable def mapAcc (A : Acc) : Acc := ⟨A.keys.map foldKey, A.rowid, A.prim, A.hasP⟩
theorem mapStep (A : Acc) (e : Evn) : (mapAcc A).step (mapEv e) = mapAcc (A.step e) := by
  cases e with
  | oth => rfl
  | uq rows =>
    show Acc.mk (_ ++ [_]) _ _ _ = Acc.mk (List.map foldKey (_ ++ [_])) _ _ _
    rw [List.map_append]
    rfl
  | pk rows b =>
    have e1 : (rows.map foldRow).map (·.pl) = rows.map (·.pl) := by rw [List.map_map]; rfl
    have e2 : (rows.map foldRow).head?.map (·.pl) = rows.head?.map (·.pl) := by cases rows <;> rfl
    cases b with
    | true =>
      show Acc.mk _ ((rows.map foldRow).head?.map (·.pl)) ((rows.map foldRow).map (·.pl)) true = _
      rw [e1, e2]; rfl
    | false =>
      show Acc.mk (A.keys.map foldKey ++ [foldKey ⟨rows, true⟩]) _ ((rows.map foldRow).map (·.pl)) true = Acc.mk (List.map foldKey (A.keys ++ [⟨rows, true⟩])) _ _ _
      rw [e1, List.map_append]; rfl
theorem mapFold : ∀ (es : List Evn) (A : Acc), (es.map mapEv).foldl Acc.step (mapAcc A) = mapAcc (es.foldl Acc.step A)
  | [], A => rfl
  | e :: es, A => by
    rw [List.map_cons, List.foldl_cons, List.foldl_cons, mapStep]
    exact mapFold es _
theorem mapC : ∀ (cols : List DC) (i : Nat), (evsC i cols).map mapEv = evsC i cols
  | [], i => rfl
  | c :: cs, i => by
    rw [evsC, List.map_append, mapC cs, List.map_map]
    exact congrArg (· ++ evsC (i + 1) cs) (List.map_congr_left fun r _ => by cases r <;> rfl)
theorem evM_eq (cols : List DC) (rules : List DR) : evsC 0 cols ++ evsK (cols.map (·.ty)) rules = (evL cols rules).map mapEv := by
  rw [evL, List.map_append, mapC, evsK, List.map_map]
  refine congrArg (evsC 0 cols ++ ·) (List.map_congr_left fun k _ => ?_)
  obtain ⟨pk, rows⟩ := k
  cases pk <;> rfl
noncomputable def isPkE : Evn → Bool
  | .pk _ _ => true
  | _ => false
noncomputable def isKE : Evn → Bool
  | .oth => false
  | _ => true
theorem allOk_gen : ∀ (es : List Evn) (A : Acc), A.keys.length + es.length ≤ 100 → (bif A.hasP then 1 else 0) + es.countP isPkE ≤ 1 → A.allOk es
  | [], A, _, _ => trivial
  | e :: es, A, h1, h2 => by
    rw [List.length_cons] at h1
    rw [List.countP_cons] at h2
    cases e with
    | oth => exact ⟨trivial, allOk_gen es A (by omega) h2⟩
    | uq rows => exact ⟨show A.keys.length < 100 by omega, allOk_gen es _ (by show (A.keys ++ [_]).length + _ ≤ _; rw [List.length_append, List.length_singleton]; omega) h2⟩
    | pk rows b =>
      have h2 : (bif A.hasP then 1 else 0) + (es.countP isPkE + 1) ≤ 1 := h2
      have hp : A.hasP = false := by
        cases h : A.hasP with
        | false => rfl
        | true => rw [h, cond_true] at h2; omega
      rw [hp, cond_false] at h2
      refine ⟨⟨show A.keys.length < 100 by omega, hp⟩, allOk_gen es _ ?_ ?_⟩
      · cases b with
        | true => show A.keys.length + _ ≤ _; omega
        | false => show (A.keys ++ [_]).length + _ ≤ _; rw [List.length_append, List.length_singleton]; omega
      · show 1 + es.countP isPkE ≤ 1
        omega
noncomputable def rowsOk (m : Nat) (rows : List Row) : Prop := rows.length ≤ 4 ∧ ∀ r ∈ rows, rowV m r
noncomputable def evV (m : Nat) : Evn → Prop
  | .oth => True
  | .uq rows => rowsOk m rows
  | .pk rows _ => rowsOk m rows
theorem keys_app {m : Nat} {ks : List Key} {k : Key} (h : ∀ k ∈ ks, rowsOk m k.rows) (h0 : rowsOk m k.rows) : ∀ x ∈ ks ++ [k], rowsOk m x.rows := fun x hx => by
  rcases List.mem_append.mp hx with h' | h'
  · exact h x h'
  · rw [List.mem_singleton.mp h']; exact h0
theorem keys_gen {m : Nat} : ∀ (es : List Evn) (A : Acc), (∀ e ∈ es, evV m e) → (∀ k ∈ A.keys, rowsOk m k.rows) → A.prim.length ≤ 4 → (∀ k ∈ (es.foldl Acc.step A).keys, rowsOk m k.rows) ∧ (es.foldl Acc.step A).prim.length ≤ 4
  | [], A, _, h, hp => ⟨h, hp⟩
  | e :: es, A, he, h, hp => by
    have he' : ∀ e ∈ es, evV m e := fun x hx => he x (.tail _ hx)
    have h0 := he e (.head _)
    rw [List.foldl_cons]
    cases e with
    | oth => exact keys_gen es A he' h hp
    | uq rows => exact keys_gen es _ he' (keys_app (k := ⟨rows, false⟩) h h0) hp
    | pk rows b =>
      have hl : (rows.map (·.pl)).length ≤ 4 := by rw [List.length_map]; exact h0.1
      cases b with
      | true => exact keys_gen es _ he' h hl
      | false => exact keys_gen es _ he' (keys_app (k := ⟨rows, true⟩) h h0) hl
theorem len_gen : ∀ (es : List Evn) (A : Acc), (es.foldl Acc.step A).keys.length ≤ A.keys.length + es.countP isKE
  | [], A => Nat.le_refl _
  | e :: es, A => by
    rw [List.foldl_cons, List.countP_cons]
    refine Nat.le_trans (len_gen es (A.step e)) ?_
    have ap : ∀ (k : Key), (A.keys ++ [k]).length = A.keys.length + 1 := fun k => by rw [List.length_append, List.length_singleton]
    cases e with
    | oth => exact Nat.le_refl _
    | uq rows => show (A.keys ++ [_]).length + es.countP isKE ≤ A.keys.length + (es.countP isKE + 1); rw [ap]; omega
    | pk rows b =>
      cases b with
      | true => show A.keys.length + es.countP isKE ≤ A.keys.length + (es.countP isKE + 1); omega
      | false => show (A.keys ++ [_]).length + es.countP isKE ≤ A.keys.length + (es.countP isKE + 1); rw [ap]; omega
theorem cnt_rule {i : Nat} {ty : PV} : ∀ rs : List Rule, (rs.map (Rule.ev i ty)).countP isPkE = rs.countP isPk ∧ (rs.map (Rule.ev i ty)).countP isKE = rs.countP isPk + rs.countP isUq
  | [] => ⟨rfl, rfl⟩
  | r :: rs => by
    obtain ⟨h1, h2⟩ := cnt_rule (i := i) (ty := ty) rs
    rw [List.map_cons, List.countP_cons, List.countP_cons, List.countP_cons, List.countP_cons, h1, h2]
    have k1 : isPkE (Rule.ev i ty r) = isPk r := by cases r <;> rfl
    have k2 : (if isKE (Rule.ev i ty r) = true then 1 else 0) = (if isPk r = true then 1 else 0) + (if isUq r = true then 1 else 0) := by cases r <;> rfl
    rw [k1, k2]
    omega
theorem cnt_cols : ∀ (cols : List DC) (i : Nat), (∀ c ∈ cols, RsV 10 1 c.rules) → (evsC i cols).countP isPkE = (cols.map pks).sum ∧ (evsC i cols).countP isKE ≤ (cols.map pks).sum + cols.length ∧ (evsC i cols).length ≤ 10 * cols.length
  | [], i, _ => ⟨rfl, Nat.le_refl _, Nat.le_refl _⟩
  | c :: cs, i, h => by
    obtain ⟨h1, h2, h3⟩ := cnt_cols cs (i + 1) (fun x hx => h x (.tail _ hx))
    have hc := h c (.head _)
    obtain ⟨k1, k2⟩ := cnt_rule (i := i) (ty := c.ty) c.rules
    have u := hc.uq
    have l := hc.len
    rw [evsC, List.countP_append, List.countP_append, List.length_append, k1, k2, h1, List.map_cons, List.sum_cons, List.length_cons, List.length_map, pks]
    exact ⟨rfl, by omega, by omega⟩
theorem rowsOk1 {m i : Nat} {b : Bool} (h : i < m) : rowsOk m [⟨i, none, b⟩] := ⟨Nat.le_of_ble_eq_true rfl, fun r hr => by rw [List.mem_singleton.mp hr]; exact ⟨h, .inl rfl⟩⟩
theorem evV_cols {m : Nat} : ∀ (cols : List DC) (i : Nat), i + cols.length ≤ m → ∀ e ∈ evsC i cols, evV m e
  | [], i, _ => fun _ h => nomatch h
  | c :: cs, i, h => by
    intro e he
    rw [List.length_cons] at h
    rw [evsC] at he
    rcases List.mem_append.mp he with h' | h'
    · obtain ⟨r, _, rfl⟩ := List.mem_map.mp h'
      cases r with
      | uq => exact rowsOk1 (by omega)
      | pk b => exact rowsOk1 (by omega)
      | _ => trivial
    · exact evV_cols cs (i + 1) (by omega) e h'
theorem settle1 {rid : Option Nat} {found : List Key} {k : Key} : (settleStep rid found k).length ≤ found.length + 1 ∧ ((∀ k ∈ found, k.rows.length ≤ 20) → k.rows.length ≤ 20 → ∀ k' ∈ settleStep rid found k, k'.rows.length ≤ 20) := by
  unfold settleStep
  split
  · exact ⟨Nat.le_succ _, fun hf _ => hf⟩
  split
  · refine ⟨by rw [List.length_append]; exact Nat.le_refl _, fun hf hk k' hk' => ?_⟩
    rcases List.mem_append.mp hk' with h | h
    · exact hf k' h
    · rw [List.mem_singleton.mp h]; exact hk
  split
  · refine ⟨by rw [List.length_modify]; exact Nat.le_succ _, fun hf hk k' hk' => ?_⟩
    obtain ⟨j, hj, rfl⟩ := List.mem_iff_getElem.mp hk'
    rw [List.getElem_modify]
    rw [List.length_modify] at hj
    split
    · exact hf found[j] (List.getElem_mem hj)
    · exact hf found[j] (List.getElem_mem hj)
  · exact ⟨Nat.le_succ _, fun hf _ => hf⟩
theorem settle_len {rid : Option Nat} : ∀ (ks found : List Key), (ks.foldl (settleStep rid) found).length ≤ found.length + ks.length ∧ ((∀ k ∈ found, k.rows.length ≤ 20) → (∀ k ∈ ks, k.rows.length ≤ 20) → ∀ k ∈ ks.foldl (settleStep rid) found, k.rows.length ≤ 20)
  | [], found => ⟨Nat.le_refl _, fun h _ => h⟩
  | k :: ks, found => by
    rw [List.foldl_cons, List.length_cons]
    obtain ⟨h1, h2⟩ := settle_len (rid := rid) ks (settleStep rid found k)
    obtain ⟨e1, e2⟩ := settle1 (rid := rid) (found := found) (k := k)
    exact ⟨by omega, fun hf hk => h2 (e2 hf (hk k (.head _))) fun x hx => hk x (.tail _ hx)⟩
section
variable {nm : Str} {cols : List DC} {rules : List DR} {A : Acc}
structure EvC (m : Nat) (es : List Evn) : Prop where
  p : es.countP isPkE ≤ 1
  k : es.countP isKE ≤ 8
  l : es.length ≤ 43
  v : ∀ e ∈ es, evV m e
theorem ev_cnt (hv : DV nm cols rules) : EvC cols.length (evL cols rules) := by
  obtain ⟨h1, h2, h3⟩ := cnt_cols cols 0 (fun c hc => (hv.cty c hc).2)
  have hp := hv.pk
  have hl := hv.len
  have h4 := hv.le
  have k1 : (rules.map (conEvL (cols.map (·.ty)))).countP isPkE = rules.countP (·.pk) := by
    rw [List.countP_map]
    refine congrArg (fun f => List.countP f rules) (funext fun k => ?_)
    obtain ⟨pk, rows⟩ := k
    cases pk <;> rfl
  have k2 : (rules.map (conEvL (cols.map (·.ty)))).countP isKE ≤ rules.length := by
    have := List.countP_le_length (p := isKE) (l := rules.map (conEvL (cols.map (·.ty))))
    rwa [List.length_map] at this
  rw [evL]
  refine ⟨by rw [List.countP_append, h1, k1]; exact hp, by rw [List.countP_append]; omega, by rw [List.length_append, List.length_map]; omega, fun e he => ?_⟩
  rcases List.mem_append.mp he with h | h
  · exact evV_cols cols 0 (by omega) e h
  · obtain ⟨k, hk, rfl⟩ := List.mem_map.mp h
    have h := (hv.rul k hk).2
    obtain ⟨pk, rows⟩ := k
    cases pk with
    | true => exact h
    | false => exact h
theorem acc_facts (hv : DV nm cols rules) (hA : (evL cols rules).foldl Acc.step Acc.z = A) : keysOk cols.length A.keys ∧ A.prim.length ≤ 20 := by
  have c := ev_cnt hv
  have h := len_gen (evL cols rules) Acc.z
  obtain ⟨k1, k2⟩ := keys_gen (evL cols rules) Acc.z c.v (fun _ h => nomatch h) (Nat.zero_le _)
  rw [hA] at h k1 k2
  have h : A.keys.length ≤ 0 + (evL cols rules).countP isKE := h
  have := c.k
  exact ⟨⟨by omega, k1⟩, by omega⟩
theorem finA_eq {z : SSt} (e1 : z.nodes.map (·.dc) = cols) (e2 : z.cons.map (·.dr) = rules) : evA z = (evL cols rules).map mapEv ∧ finA z = mapAcc ((evL cols rules).foldl Acc.step Acc.z) := by
  have ht : z.nodes.map (·.ty) = cols.map (·.ty) := by rw [← e1, List.map_map]; rfl
  have h : evA z = (evL cols rules).map mapEv := by
    rw [evA, e1, e2, ht]
    exact evM_eq cols rules
  refine ⟨h, ?_⟩
  rw [finA, h]
  exact mapFold _ Acc.z
theorem evOk_of {z : SSt} (hv : DV nm cols rules) (e1 : z.nodes.map (·.dc) = cols) (e2 : z.cons.map (·.dr) = rules) : EvOk z := by
  obtain ⟨h1, h2⟩ := finA_eq e1 e2
  have c := ev_cnt hv
  obtain ⟨⟨q1, q2⟩, q3⟩ := acc_facts hv rfl
  have hl : z.nodes.length = cols.length := by rw [← e1, List.length_map]
  refine ⟨?_, ?_, ?_⟩
  · rw [h1]
    have hp : ((evL cols rules).map mapEv).countP isPkE = (evL cols rules).countP isPkE := by
      rw [List.countP_map]
      exact congrArg (fun f => List.countP f _) (funext fun e => by cases e <;> rfl)
    have cl := c.l
    have cp := c.p
    refine allOk_gen _ _ ?_ ?_
    · rw [List.length_map]
      show 0 + _ ≤ 100
      omega
    · rw [hp]
      show 0 + _ ≤ 1
      omega
  · rw [h2]
    show (List.map foldKey _).length ≤ 90
    rw [List.length_map]; omega
  · intro k hk
    rw [h2] at hk
    obtain ⟨k', hk', rfl⟩ := List.mem_map.mp hk
    obtain ⟨a, b⟩ := q2 k' hk'
    refine ⟨by show (List.map foldRow _).length ≤ 20; rw [List.length_map]; omega, fun r hr => ?_⟩
    obtain ⟨r', hr', rfl⟩ := List.mem_map.mp hr
    rw [hl]
    exact (b r' hr').1
end
end Mine
namespace Mine
open PySem
section
variable {Q : KV} {H : PH} {n : Nat}
theorem pool_Z {k : Nat} {z : Int} (hk : k ≤ 1) (hQ : ∀ H' s, Ge H H' → H.next ≤ s → SrcOk s H' → Q (.obj s) H') : pool9 Q (.int k) (.int z) H := by
  refine e_neg (e_sub (e_max (e_mod (by decide) ?_)))
  have hb : 0 ≤ (if z < -1 - z then -1 - z else z) := by split <;> omega
  generalize (if z < -1 - z then -1 - z else z) = big at hb ⊢
  have e1 := Int.fmod_nonneg_of_pos big (b := 2147483629) (by decide)
  have e2 := Int.fmod_lt_of_pos big (b := 2147483629) (by decide)
  generalize big.fmod 2147483629 = f at e1 e2 ⊢
  refine e_mul ⟨by decide, by decide⟩ (e_mul ⟨by omega, by omega⟩ (e_add (e_mul ⟨by decide, by decide⟩ (e_add (e_add ?_)))))
  obtain ⟨c, hc, c1, c2⟩ : ∃ c : Int, f + 7919 * (k : Int) * (k : Int) + 31 * (k : Int) + 17 = c ∧ 0 ≤ c ∧ c < 3000000000 := by
    refine ⟨_, rfl, ?_, ?_⟩
    · rcases k with _ | _ | k
      · omega
      · omega
      · omega
    · rcases k with _ | _ | k
      · omega
      · omega
      · omega
  rw [hc]
  refine e_mul ⟨by omega, by omega⟩ (e_mod (by decide) ?_)
  have m1 := Int.fmod_nonneg_of_pos (c * 48271) (b := 2147483647) (by decide)
  have m2 := Int.fmod_lt_of_pos (c * 48271) (b := 2147483647) (by decide)
  generalize (c * 48271).fmod 2147483647 = mixed at m1 m2 ⊢
  have fin : ∀ a : Int, 0 ≤ a → pool0 Q (.int mixed) (.int a) H := fun a ha => e_al rfl (hQ _ _ .push (Nat.le_refl _) ⟨a, mixed, .new, ha, m1, m2⟩)
  exact e_pow (by decide) ⟨by decide, by decide⟩ (e_ge (c_if (fun _ => fin _ hb) fun _ => fin _ (by decide)))
theorem pool_W {ns : List Int} {k : Nat} (hl : ns.length ≤ 1000) (hk : k ≤ 1) (hQ : ∀ H' s, Ge H H' → H.next ≤ s → SrcOk s H' → Q (.obj s) H') : CallC (lv (n + 14)) 908 [.ints ns, .int k] Q H := by
  refine pool_c (e_lenI hl (e_lt (c_if (fun h => ?_) fun _ => pool_Z hk hQ)))
  have h : k < ns.length := Int.ofNat_lt.mp h
  exact e_subsI (z := ns[k]) (by omega) (List.getElem?_eq_getElem h) (pool_Z hk hQ)
theorem tfd {x : PV} (h : CallC (lv (n + 70)) 894 [x, .none] Q H) : CallC (lv (n + 70)) 894 [x] Q H := by
  cases h with
  | mk h => exact ⟨Eq.mpr (by kernel_rfl) h⟩
structure LawI (H : PH) (ns : List Int) (rL : Nat) (ℓ : Loc) (H' : PH) : Prop where
  g : Ge H H'
  s : ℓ "script" = some (.ints ns)
  r : ℓ "roots" = some (.obj rL)
  a : At H' rL (.list rootsL)
theorem rootsL_ok : rootsOk rootsL
  | 0 => rfl
  | 1 => rfl
  | 2 => rfl
  | 3 => rfl
  | 4 => rfl
  | 5 => rfl
  | 6 => rfl
  | 7 => rfl
  | 8 => rfl
  | k + 9 => rfl
theorem nil_ok : rootsOk [] := fun _ => rfl
theorem tab_W {D : ND} {z : SSt} {rL lo : Nat} (hD : D.at lo H) (hv : DV D.nm (D.cols.map (·.dc)) (D.rules.map (·.dr))) (hz : z.ok H) (hzn : z.nm = D.nm) (e1 : z.nodes.map (·.dc) = D.cols.map (·.dc)) (e2 : z.cons.map (·.dr) = D.rules.map (·.dr)) (fr : At H rL (.list rootsL))
    (hQ : ∀ H5 F S, TB H z rootsL F S H5 → (∀ {Q : KV} {n : Nat}, (∀ H6, Ge H H6 → Q (.bool true) H6) → CallC (lv (n + 50)) 968 [.obj D.ix, .obj F.t, .obj rL] Q H5) → Q (.obj F.t) H5) : CallC (lv (n + 70)) 894 [.obj z.st, .obj rL] Q H := by
  have hev := evOk_of hv e1 e2
  have hznl : z.nm.length ≤ 100 := by rw [hzn]; rcases hv.nm with h | h <;> rw [h] <;> decide
  refine tf_W hz (.inr ⟨rL, rfl, fr⟩) (by decide) rootsL_ok hznl hev fun H5 F S tb => hQ _ _ _ tb fun {Q n} hQ => ?_
  have g5 := tb.sep.ge
  obtain ⟨A, hA⟩ : ∃ A, (evL (D.cols.map (·.dc)) (D.rules.map (·.dr))).foldl Acc.step Acc.z = A := ⟨_, rfl⟩
  obtain ⟨hfe1, hfe2⟩ := finA_eq (cols := D.cols.map (·.dc)) (rules := D.rules.map (·.dr)) e1 e2
  rw [hA] at hfe2
  obtain ⟨hkv, hpl⟩ := acc_facts hv hA
  rw [List.length_map] at hkv
  have hcf : z.nodes.map (·.dc.fin) = (D.cols.map (·.dc)).map DC.fin := by rw [← e1, List.map_map]; rfl
  have hcols : S.cols.map CS.p = D.cols.map (·.dc.fin) := by rw [tb.cols, hcf, List.map_map]; rfl
  have hidx : S.idx.map (·.k) = (A.keys.map (sKey (D.cols.map (·.dc)))).foldl (settleStep A.rowid) [] := by
    rw [tb.idx, hfe2, settleP]
    show ((A.keys.map foldKey).map (settleKey _)).foldl (settleStep A.rowid) [] = _
    rw [List.map_map, hcf]
    refine congrArg (List.foldl (settleStep A.rowid) []) (List.map_congr_left fun k _ => ?_)
    show Key.mk ((k.rows.map foldRow).map _) _ = Key.mk _ _
    rw [List.map_map]
    rfl
  have hsl := settle_len (rid := A.rowid) (A.keys.map (sKey (D.cols.map (·.dc)))) []
  have h1 := hsl.1
  rw [← hidx, List.length_map, List.length_map, List.length_nil] at h1
  have hk8 := hkv.1
  refine tbr_W tb.sep tb.ok hcols (hD.ge g5) hv hA hkv hpl (tb.nm.trans hzn) tb.root tb.rts (tb.rowid.trans (by rw [hfe2]; rfl)) (tb.prim.trans (by rw [hfe2]; rfl)) hidx (by omega) (fun x hx => ?_) tb.nr (fr.ge g5) fun H6 g6 => hQ _ (g5.trans g6)
  refine hsl.2 (fun _ h => nomatch h) (fun k hk => ?_) x.k (by rw [← hidx]; exact List.mem_map_of_mem hx)
  obtain ⟨k', hk', rfl⟩ := List.mem_map.mp hk
  have := (hkv.2 k' hk').1
  show (List.map _ _).length ≤ 20
  rw [List.length_map]; omega
theorem bare_W {D : ND} {lo : Nat} {ℓ : Loc} {k : KL} (hD : D.at lo H) (hv : DV D.nm (D.cols.map (·.dc)) (D.rules.map (·.dr))) (hk : ∀ ℓ' H', ℓ' "script" = ℓ "script" → ℓ' "roots" = ℓ "roots" → Ge H H' → k ℓ' H') : CallC (lv (n + 84)) 939 [.obj D.ix] (law5 n Q k ℓ (.int 1) (.obj D.ix)) H := by
  refine sta_W (n := n + 64) hD hv fun H7 z7 g7 hz7 hzn7 e17 e27 => tfd (n := n + 15) ?_
  have hznl7 : z7.nm.length ≤ 100 := by rw [hzn7]; rcases hv.nm with h | h <;> rw [h] <;> decide
  have hev := evOk_of hv e17 e27
  refine tf_W (roots := []) hz7 (.inl ⟨rfl, rfl⟩) (by decide) nil_ok hznl7 hev fun H8 F8 S8 tb8 => ?_
  have g8 := tb8.sep.ge
  have f2 : At H8 F8.t (.inst 757 [("name", .str F8.nm), ("root", .int 0), ("columns", .obj F8.cl), ("rowid_place", optI S8.rowid), ("indexes", .obj S8.il), ("checks", .obj F8.kl), ("sql", F8.txt), ("primary", .obj S8.pl)]) := by
    have h : F8.root = .int 0 := tb8.root
    rw [← h]; exact MS.ft tb8.sep
  have f3 := MS.fi tb8.sep
  have hil8 : S8.idx.length ≤ 90 := by
    have h1 := congrArg List.length tb8.idx
    have h2 := (settle_len (rid := (finA z7).rowid) ((finA z7).keys.map (settleKey (z7.nodes.map (·.dc.fin)))) []).1
    have h3 := hev.len
    rw [settleP, List.length_map] at h1
    rw [← h1, List.length_map, List.length_nil] at h2
    omega
  refine e_attr f2 (by kernel_rfl) rfl (e_ne rfl int_eq (e_attr f2 (by kernel_rfl) rfl (e_srcL f3 (by rw [idxV_len]; omega) ?_)))
  refine loopC_r (fun r a ℓ H9 => H9 = H8 ∧ a = [] ∧ ∃ q : List IS, r = q.map (fun x => PV.obj x.ix) ∧ ∀ x ∈ q, x ∈ S8.idx) (fun r a ℓ H9 h => h.1 ▸ f3.get) ?_ ?_ ⟨rfl, rfl, S8.idx, rfl, fun x h => h⟩
  · rintro v r a ℓ9 H9 kc ⟨rfl, rfl, q, hr, hq⟩ hkc
    obtain ⟨x, q, rfl, rfl, rfl⟩ := map_cons_inv hr
    have hm := hq x (.head _)
    obtain ⟨j, hj, hxj⟩ := List.mem_iff_getElem.mp hm
    have n2 := (tb8.nr j x (by rw [List.getElem?_eq_getElem hj, hxj])).2
    have hr0 : rootP F8 (j + 1) = .int 0 := by rw [rootP, tb8.rts]; rfl
    have fx : At H9 x.ix (.inst 717 [("name", x.nm), ("table", .str F8.nm), ("root", .int 0), ("columns", .obj x.cix), ("unique", .bool true), ("origin", ogS x.k.pk), ("sql", .none)]) := by
      rw [← hr0, ← n2]
      exact MS.fR (p := (x.ix, x.po F8.nm)) tb8.sep (List.mem_append_right _ (List.mem_flatMap.mpr ⟨x, hm, .head _⟩))
    exact e_attr fx (by kernel_rfl) rfl (e_ne rfl int_eq (hkc _ _ _ ⟨rfl, rfl, q, rfl, fun y hy => hq y (.tail _ hy)⟩))
  · rintro b ℓ9 H9 ⟨rfl, rfl, _⟩
    exact e_al rfl (e_al rfl (e_ne rfl (eqNil (Nat.ne_of_lt (Nat.lt_succ_self _)) (.push .new) .new) (hk _ _ rfl rfl (g7.trans (g8.trans (Ge.push' .push))))))
theorem law_W {ns : List Int} (hl : ns.length ≤ 1000) (hQ : ∀ H', Ge H H' → Q (.bool true) H') : CallC (lv (n + 90)) 973 [.ints ns] Q H := by
  refine law_c (e_al rfl (e_lenI hl (e_min (e_max ?_))))
  obtain ⟨m, hm, hm2⟩ : ∃ m : Nat, (if 1 < (if 2 < (ns.length : Int) then 2 else (ns.length : Int)) then (if 2 < (ns.length : Int) then 2 else (ns.length : Int)) else 1) = (m : Int) ∧ m ≤ 2 := by
    exact ⟨if ns.length ≤ 1 then 1 else 2, by (repeat' split) <;> omega, by split <;> omega⟩
  rw [hm]
  refine e_range (by omega) (e_srcR (by omega) ?_)
  refine loopF_i (fun i ℓ H' => LawI H ns H.next ℓ H') (fun _ _ _ _ => True.intro) ?_ (fun ℓ H1 I => hQ _ I.g) ⟨.push, rfl, rfl, .new⟩
  rintro i v ℓ H1 k hv0 I hk
  obtain ⟨hi, rfl⟩ := natsL_get hv0
  refine e_opt I.s (pool_W (n := n + 71) hl (k := i) (by omega) fun H2 s g2 ls hs => drw_W (n := n + 26) hs fun H3 D dw hD hv => ?_)
  have lo := I.g.le
  have aH := Nat.le_trans lo g2.le
  have fr3 : At H3 H.next (.list rootsL) := (I.a.ge g2).dw dw (Nat.ne_of_lt (Nat.lt_of_lt_of_le I.a.lt ls))
  have gH3 : Ge H H3 := ⟨Nat.le_trans aH dw.nx, fun j hj => ((dw.eq j (Nat.lt_of_lt_of_le hj aH) (Nat.ne_of_lt (Nat.lt_of_lt_of_le hj (Nat.le_trans lo ls)))).trans (g2.eq j (Nat.lt_of_lt_of_le hj lo))).trans (I.g.eq j hj)⟩
  refine sta_W (n := n + 62) hD hv fun H4 z g4 hz hzn e1 e2 => e_opt I.r (tab_W (n := n + 13) (hD.ge g4) hv hz hzn e1 e2 (fr3.ge g4) fun H5 F S tb go => e_opt I.r (go (n := n + 34) fun H6 g6 => e_testT ?_))
  have g46 := g4.trans g6
  have gH6 := gH3.trans g46
  have fr6 := fr3.ge g46
  refine e_eq (r := (i : Int) == 1) rfl (c_eq (fun h => ?_) fun _ => hk _ _ ⟨gH6, I.s, I.r, fr6⟩)
  rw [h]
  exact bare_W (hD.ge g46) hv fun ℓ' H' l1 l2 g7 => hk _ _ ⟨gH6.trans g7, l1.trans I.s, l2.trans I.r, fr6.ge g7⟩
end
end Mine
namespace Mine
open PySem PySem.W PySem.Calls PyProof.Rows PySem.Spec
noncomputable abbrev Sg := Nat → Addr × Addr
mutual
inductive RV (hb h : Heap) (σ : Sg) (nx : Nat) : Value → PV → Prop
  | none : RV hb h σ nx .none .none
  | bool (b) : RV hb h σ nx (.bool b) (.bool b)
  | int (i t) : RV hb h σ nx (.int i t) (.int i)
  | str (s t) : RV hb h σ nx (.str s t) (.str s)
  | bytes (b t) : RV hb h σ nx (.bytes b t) (.bytes b)
  | tup {a o vs n l} : h.get? a = some o → o.cls = .type "tuple" → o.data = .seq vs n → RVs hb h σ nx vs.toList l → RV hb h σ nx (.ref a) (.tup l)
  | obj {i} : i < nx → RV hb h σ nx (.ref (σ i).1) (.obj i)
  | rng {a n t u v} : IsRange h a 0 (n : Nat) 1 t u v → RV hb h σ nx (.ref a) (.rng n)
  | ints {a vs l} : hb.IsList a vs.toArray → IntsAre vs l → RV hb h σ nx (.ref a) (.ints l)
  | raw (v) : RV hb h σ nx v (.raw v)
inductive RVs (hb h : Heap) (σ : Sg) (nx : Nat) : List Value → List PV → Prop
  | nil : RVs hb h σ nx [] []
  | cons {v vs d ds} : RV hb h σ nx v d → RVs hb h σ nx vs ds → RVs hb h σ nx (v :: vs) (d :: ds)
end
section
variable {hb h : Heap} {σ : Sg} {nx : Nat} {v : Value} {vs : List Value} {d : PV} {ds : List PV}
noncomputable def RV.I (hb h : Heap) (σ : Sg) (nx : Nat) (v : Value) : PV → Prop
  | .none => v = .none
  | .bool b => v = .bool b
  | .int x => ∃ t, v = .int x t
  | .str x => ∃ t, v = .str x t
  | .bytes x => ∃ t, v = .bytes x t
  | .tup l => ∃ a o vs n, v = .ref a ∧ h.get? a = some o ∧ o.cls = .type "tuple" ∧ o.data = .seq vs n ∧ RVs hb h σ nx vs.toList l
  | .obj i => v = .ref (σ i).1 ∧ i < nx
  | .rng n => ∃ a t u w, v = .ref a ∧ IsRange h a 0 (n : Nat) 1 t u w
  | .ints l => ∃ a vs, v = .ref a ∧ hb.IsList a vs.toArray ∧ IntsAre vs l
  | .raw x => v = x
noncomputable def RVs.I (hb h : Heap) (σ : Sg) (nx : Nat) (vs : List Value) : List PV → Prop
  | [] => vs = []
  | d :: ds => ∃ v vs', vs = v :: vs' ∧ RV hb h σ nx v d ∧ RVs hb h σ nx vs' ds
noncomputable def RVs.J (hb h : Heap) (σ : Sg) (nx : Nat) (ds : List PV) : List Value → Prop
  | [] => ds = []
  | v :: vs => ∃ d ds', ds = d :: ds' ∧ RV hb h σ nx v d ∧ RVs hb h σ nx vs ds'
theorem RV.inv (p : RV hb h σ nx v d) : RV.I hb h σ nx v d :=
  RV.casesOn (motive_1 := fun v d _ => RV.I hb h σ nx v d) p rfl (fun _ => rfl) (fun _ t => ⟨t, rfl⟩) (fun _ t => ⟨t, rfl⟩) (fun _ t => ⟨t, rfl⟩) (fun a b c d => ⟨_, _, _, _, rfl, a, b, c, d⟩) (fun h => ⟨rfl, h⟩) (fun h => ⟨_, _, _, _, rfl, h⟩) (fun a b => ⟨_, _, rfl, a, b⟩) (fun _ => rfl)
theorem RVs.inv (p : RVs hb h σ nx vs ds) : RVs.I hb h σ nx vs ds := RVs.casesOn (motive_2 := fun vs ds _ => RVs.I hb h σ nx vs ds) p rfl fun a b => ⟨_, _, rfl, a, b⟩
theorem RVs.jnv (p : RVs hb h σ nx vs ds) : RVs.J hb h σ nx ds vs := RVs.casesOn (motive_2 := fun vs ds _ => RVs.J hb h σ nx ds vs) p rfl fun a b => ⟨_, _, rfl, a, b⟩
theorem RVs.ind {M : List Value → List PV → Prop} (n : M [] []) (c : ∀ v d vs ds, RV hb h σ nx v d → RVs hb h σ nx vs ds → M vs ds → M (v :: vs) (d :: ds)) (p : RVs hb h σ nx vs ds) : M vs ds :=
  RVs.rec (motive_1 := fun _ _ _ => True) (motive_2 := fun vs ds _ => M vs ds) trivial (fun _ => trivial) (fun _ _ => trivial) (fun _ _ => trivial) (fun _ _ => trivial) (fun _ _ _ _ _ => trivial) (fun _ => trivial) (fun _ => trivial) (fun _ _ => trivial) (fun _ => trivial) n (fun a b _ r => c _ _ _ _ a b r) p
end
noncomputable def Flds (hb h : Heap) (σ : Sg) (nx : Nat) : List DictEntry → List (Str × PV) → Prop
  | [], [] => True
  | e :: es, p :: fs => ((∃ t, e.key = .str p.1 t) ∧ noRaw p.2 = true) ∧ RV hb h σ nx e.val p.2 ∧ Flds hb h σ nx es fs
  | _, _ => False
theorem Flds.ind {hb h : Heap} {σ : Sg} {nx : Nat} {M : List DictEntry → List (Str × PV) → Prop} (n : M [] []) (c : ∀ e es x t d fs, e.key = .str x t → noRaw d = true → RV hb h σ nx e.val d → M es fs → M (e :: es) ((x, d) :: fs)) : ∀ {es fs}, Flds hb h σ nx es fs → M es fs := by
  intro es
  induction es with
  | nil =>
    intro fs F
    cases fs with
    | nil => exact n
    | cons p fs => exact False.elim F
  | cons e es ih =>
    intro fs F
    cases fs with
    | nil => exact False.elim F
    | cons p fs => exact let ⟨⟨⟨t, a⟩, q⟩, b, r⟩ := F; c e es p.1 t p.2 fs a q b (ih r)
theorem Flds.cons {hb h : Heap} {σ : Sg} {nx : Nat} {e : DictEntry} {es x t d fs} (a : e.key = .str x t) (n : noRaw d = true) (r : RV hb h σ nx e.val d) (F : Flds hb h σ nx es fs) : Flds hb h σ nx (e :: es) ((x, d) :: fs) := ⟨⟨⟨t, a⟩, n⟩, r, F⟩
noncomputable def RO (hb h : Heap) (σ : Sg) (nx : Nat) (ad : Addr × Addr) : PO → Prop
  | .list l => ∃ (vs : List Value) (n : Nat), h.get? ad.1 = some (listOf vs.toArray n) ∧ ad.2 = ad.1 ∧ RVs hb h σ nx vs l
  | .inst C fs => ∃ (es : List DictEntry) (n : Nat), h.get? ad.1 = some (instObj C ad.2) ∧ h.get? ad.2 = some (dictOf es n) ∧ Flds hb h σ nx es fs
structure Inv (hb : Heap) (σ : Sg) (H : PH) (h : Heap) : Prop where
  keep : ∀ b o, hb.get? b = some o → h.get? b = some o
  out : ∀ i, H.next ≤ i → H.get i = none
  dom : ∀ i, i < H.next → ∃ o, H.get i = some o ∧ RO hb h σ H.next (σ i) o
  above : ∀ i, i < H.next → hb.get? (σ i).1 = none ∧ hb.get? (σ i).2 = none
  inj : ∀ i j, i < H.next → j < H.next → i ≠ j → (σ i).1 ≠ (σ j).1 ∧ (σ i).1 ≠ (σ j).2 ∧ (σ i).2 ≠ (σ j).2
noncomputable def Mut (σ : Sg) (nx : Nat) (b : Addr) : Prop := ∃ i, i < nx ∧ (b = (σ i).1 ∨ b = (σ i).2)
structure Rl (X : Addr → Prop) (σ : Sg) (H : PH) (h : Heap) (σ' : Sg) (H' : PH) (h' : Heap) : Prop where
  nx : H.next ≤ H'.next
  old : ∀ i, i < H.next → σ' i = σ i
  keep : ∀ b o, h.get? b = some o → ¬ X b → ¬ Mut σ H.next b → h'.get? b = some o
  there : ∀ b o, h.get? b = some o → ¬ X b → ∃ o', h'.get? b = some o'
  fresh : ∀ i, H.next ≤ i → i < H'.next → (∀ o, h.get? (σ' i).1 = some o → X (σ' i).1) ∧ ∀ o, h.get? (σ' i).2 = some o → X (σ' i).2
noncomputable abbrev NoX : Addr → Prop := fun _ => False
theorem Rl.refl {X σ H h} : Rl X σ H h σ H h := ⟨Nat.le_refl _, fun _ _ => rfl, fun _ _ e _ _ => e, fun _ o e _ => ⟨o, e⟩, fun i h1 h2 => absurd h1 (Nat.not_le_of_lt h2)⟩
theorem Rl.mut {X σ H h σ' H' h'} (r : Rl X σ H h σ' H' h') {b o} (e : h.get? b = some o) (x : ¬ X b) (n : ¬ Mut σ H.next b) : ¬ Mut σ' H'.next b := by
  rintro ⟨i, hi, hb⟩
  by_cases hlt : i < H.next
  · exact n ⟨i, hlt, by rw [← r.old i hlt]; exact hb⟩
  · have := r.fresh i (Nat.le_of_not_lt hlt) hi
    rcases hb with rfl | rfl
    · exact x (this.1 o e)
    · exact x (this.2 o e)
theorem Rl.trans {X σ H h σ' H' h' σ'' H'' h''} (r : Rl X σ H h σ' H' h') (q : Rl X σ' H' h' σ'' H'' h'') : Rl X σ H h σ'' H'' h'' where
  nx := Nat.le_trans r.nx q.nx
  old := fun i hi => (q.old i (Nat.lt_of_lt_of_le hi r.nx)).trans (r.old i hi)
  keep := fun b o e x n => q.keep b o (r.keep b o e x n) x (r.mut e x n)
  there := fun b o e x => let ⟨o', e'⟩ := r.there b o e x; q.there b o' e' x
  fresh := fun i h1 h2 => by
    by_cases hlt : i < H'.next
    · rw [q.old i hlt]; exact r.fresh i h1 hlt
    · have := q.fresh i (Nat.le_of_not_lt hlt) h2
      constructor
      · intro o e
        by_cases x : X (σ'' i).1
        · exact x
        · obtain ⟨o', e'⟩ := r.there _ _ e x; exact this.1 o' e'
      · intro o e
        by_cases x : X (σ'' i).2
        · exact x
        · obtain ⟨o', e'⟩ := r.there _ _ e x; exact this.2 o' e'
theorem Rl.weak {X Y : Addr → Prop} {σ H h σ' H' h'} (r : Rl X σ H h σ' H' h') (w : ∀ b, X b → Y b) : Rl Y σ H h σ' H' h' :=
  ⟨r.nx, r.old, fun b o e x n => r.keep b o e (fun y => x (w b y)) n, fun b o e x => r.there b o e fun y => x (w b y), fun i h1 h2 => ⟨fun o e => w _ ((r.fresh i h1 h2).1 o e), fun o e => w _ ((r.fresh i h1 h2).2 o e)⟩⟩
theorem Rl.drop {X Y : Addr → Prop} {σ H h h1 σ' H' h'} (r : Rl X σ H h1 σ' H' h') (k : ∀ b o, h.get? b = some o → ¬ Y b → h1.get? b = some o) (w : ∀ b o, h.get? b = some o → X b → Y b) : Rl Y σ H h σ' H' h' :=
  ⟨r.nx, r.old, fun b o e x n => r.keep b o (k _ _ e x) (fun y => x (w b o e y)) n, fun b o e x => r.there b o (k _ _ e x) fun y => x (w b o e y), fun i h1 h2 => ⟨fun o e => Classical.byContradiction fun z => z (w _ o e ((r.fresh i h1 h2).1 o (k _ _ e z))), fun o e => Classical.byContradiction fun z => z (w _ o e ((r.fresh i h1 h2).2 o (k _ _ e z)))⟩⟩
theorem Inv.mutObj {hb σ H h} (I : Inv hb σ H h) {b o} (e : h.get? b = some o) (m : Mut σ H.next b) {M : Obj → Prop} (m1 : ∀ vs n, M (listOf vs n)) (m2 : ∀ C d, M (instObj C d)) (m3 : ∀ es n, M (dictOf es n)) : M o := by
  obtain ⟨i, hi, hb⟩ := m
  obtain ⟨p, hp, r⟩ := I.dom i hi
  have go : ∀ a o', h.get? a = some o' → b = a → M o' → M o := fun a o' e' q x => Option.some.inj (e'.symm.trans (q ▸ e)) ▸ x
  cases p with
  | list l => let ⟨vs, n, e1, e2, _⟩ := r; exact go _ _ e1 (hb.elim id fun q => q.trans e2) (m1 _ _)
  | inst C fs => let ⟨es, n, e1, e2, _⟩ := r; exact hb.elim (fun q => go _ _ e1 q (m2 _ _)) fun q => go _ _ e2 q (m3 _ _)
theorem Inv.notMut_cls {hb σ H h} (I : Inv hb σ H h) {b o} {s : String} (e : h.get? b = some o) (c : o.cls = .type s) (n : s ≠ "list" ∧ s ≠ "dict") : ¬ Mut σ H.next b := fun m =>
  I.mutObj e m (M := fun o => o.cls = .type s → False) (fun _ _ q => n.1 (Value.type.inj q).symm) (fun _ _ q => nomatch q) (fun _ _ q => n.2 (Value.type.inj q).symm) c
theorem Inv.notMut_tuple {hb σ H h} (I : Inv hb σ H h) {b o} (e : h.get? b = some o) (c : o.cls = .type "tuple") : ¬ Mut σ H.next b := I.notMut_cls e c (by decide)
theorem Inv.notMut_range {hb σ H h} (I : Inv hb σ H h) {b o} (e : h.get? b = some o) (c : o.cls = .type "range") : ¬ Mut σ H.next b := I.notMut_cls e c (by decide)
theorem Inv.notMut_cell {hb σ H h} (I : Inv hb σ H h) {b v} (e : h.IsCell b v) : ¬ Mut σ H.next b := fun m =>
  let ⟨_, e, d⟩ := e
  I.mutObj e m (M := fun o => o.data = .cell v → False) (fun _ _ q => nomatch q) (fun _ _ q => nomatch q) (fun _ _ q => nomatch q) d
theorem Inv.notMut_base {hb σ H h} (I : Inv hb σ H h) {b o} (e : hb.get? b = some o) : ¬ Mut σ H.next b := by
  rintro ⟨i, hi, rfl | rfl⟩
  · rw [(I.above i hi).1] at e; cases e
  · rw [(I.above i hi).2] at e; cases e
noncomputable def NotVal (o : Obj) : Prop := (o.cls = .type "tuple" → ∀ vs n, o.data ≠ .seq vs n) ∧ (o.cls = .type "range" → ∀ x, o.data ≠ .fields x)
structure Keeps2 (h : Heap) (σ : Sg) (nx : Nat) (h' : Heap) (σ' : Sg) (nx' : Nat) : Prop where
  le : nx ≤ nx'
  old : ∀ i, i < nx → σ' i = σ i
  tup : ∀ a o, h.get? a = some o → o.cls = .type "tuple" → (∃ vs n, o.data = .seq vs n) → h'.get? a = some o
  rng : ∀ a o, h.get? a = some o → o.cls = .type "range" → (∃ x, o.data = .fields x) → h'.get? a = some o
section
variable {hb h h' : Heap} {σ σ' : Sg} {nx nx' : Nat} {v : Value} {d : PV} {vs : List Value} {ds : List PV}
theorem RV.mono (k : Keeps2 h σ nx h' σ' nx') (x : RV hb h σ nx v d) : RV hb h' σ' nx' v d :=
  RV.rec (motive_1 := fun v d _ => RV hb h' σ' nx' v d) (motive_2 := fun vs ds _ => RVs hb h' σ' nx' vs ds) .none .bool .int .str .bytes (fun e c d _ r => .tup (k.tup _ _ e c ⟨_, _, d⟩) c d r)
    (fun {i} h => k.old i h ▸ .obj (Nat.lt_of_lt_of_le h k.le)) (fun e => .rng (k.rng _ _ e rfl ⟨_, rfl⟩)) .ints .raw .nil (fun _ _ a b => .cons a b) x
theorem RVs.mono (k : Keeps2 h σ nx h' σ' nx') (x : RVs hb h σ nx vs ds) : RVs hb h' σ' nx' vs ds :=
  RVs.rec (motive_1 := fun v d _ => RV hb h' σ' nx' v d) (motive_2 := fun vs ds _ => RVs hb h' σ' nx' vs ds) .none .bool .int .str .bytes (fun e c d _ r => .tup (k.tup _ _ e c ⟨_, _, d⟩) c d r)
    (fun {i} h => k.old i h ▸ .obj (Nat.lt_of_lt_of_le h k.le)) (fun e => .rng (k.rng _ _ e rfl ⟨_, rfl⟩)) .ints .raw .nil (fun _ _ a b => .cons a b) x
end
theorem Flds.mono {hb h h' : Heap} {σ σ' : Sg} {nx nx' : Nat} (k : Keeps2 h σ nx h' σ' nx') {es fs} (F : Flds hb h σ nx es fs) : Flds hb h' σ' nx' es fs := F.ind (M := Flds hb h' σ' nx') trivial fun _ _ _ _ _ _ a n r F => Flds.cons a n (r.mono k) F
theorem Rl.keeps2 {X σ H h σ' H' h' hb} (r : Rl X σ H h σ' H' h') (I : Inv hb σ H h) (hX : ∀ b o, h.get? b = some o → X b → NotVal o) : Keeps2 h σ H.next h' σ' H'.next where
  le := r.nx
  old := r.old
  tup := fun a o e c ⟨vs, n, d⟩ => r.keep a o e (fun x => (hX a o e x).1 c vs n d) (I.notMut_tuple e c)
  rng := fun a o e c ⟨y, d⟩ => r.keep a o e (fun x => (hX a o e x).2 c y d) (I.notMut_range e c)
theorem Rl.keeps {σ H h σ' H' h' hb} (r : Rl NoX σ H h σ' H' h') (I : Inv hb σ H h) : Keeps2 h σ H.next h' σ' H'.next := r.keeps2 I fun _ _ _ x => x.elim
theorem RV.up {σ H h σ' H' h' hb v d} (x : RV hb h σ H.next v d) (r : Rl NoX σ H h σ' H' h') (I : Inv hb σ H h) : RV hb h' σ' H'.next v d := x.mono (r.keeps I)
theorem RVs.up {σ H h σ' H' h' hb v d} (x : RVs hb h σ H.next v d) (r : Rl NoX σ H h σ' H' h') (I : Inv hb σ H h) : RVs hb h' σ' H'.next v d := x.mono (r.keeps I)
section
variable {hb h : Heap} {σ : Sg} {nx : Nat} {v : Value} {vs ws : List Value} {d : PV} {ds es : List PV} {i : Nat}
theorem RVs.length (p : RVs hb h σ nx vs ds) : vs.length = ds.length := p.ind (M := fun vs ds => vs.length = ds.length) rfl fun _ _ _ _ _ _ r => congrArg (· + 1) r
theorem RVs.append (p : RVs hb h σ nx vs ds) (q : RVs hb h σ nx ws es) : RVs hb h σ nx (vs ++ ws) (ds ++ es) := p.ind (M := fun vs ds => RVs hb h σ nx (vs ++ ws) (ds ++ es)) q fun _ _ _ _ a _ r => .cons a r
theorem RVs.rel (p : RVs hb h σ nx vs ds) : ∀ i : Nat, (vs[i]? = none ∧ ds[i]? = none) ∨ ∃ v d, vs[i]? = some v ∧ ds[i]? = some d ∧ RV hb h σ nx v d :=
  p.ind (M := fun vs ds => ∀ i : Nat, (vs[i]? = none ∧ ds[i]? = none) ∨ ∃ v d, vs[i]? = some v ∧ ds[i]? = some d ∧ RV hb h σ nx v d) (fun _ => .inl ⟨rfl, rfl⟩) fun v d _ _ a _ r i => Nat.casesOn i (.inr ⟨v, d, rfl, rfl, a⟩) r
theorem RVs.get (p : RVs hb h σ nx vs ds) (e : ds[i]? = some d) : ∃ v, vs[i]? = some v ∧ RV hb h σ nx v d := by
  rcases p.rel i with ⟨_, b⟩ | ⟨v, d', a, b, c⟩
  · rw [b] at e; exact nomatch e
  · rw [b] at e; exact ⟨v, a, Option.some.inj e ▸ c⟩
theorem RVs.get' (p : RVs hb h σ nx vs ds) (e : vs[i]? = some v) : ∃ d, ds[i]? = some d ∧ RV hb h σ nx v d := by
  rcases p.rel i with ⟨a, _⟩ | ⟨v', d, a, b, c⟩
  · rw [a] at e; exact nomatch e
  · rw [a] at e; exact ⟨d, b, Option.some.inj e ▸ c⟩
theorem RVs.set (p : RVs hb h σ nx vs ds) (x : RV hb h σ nx v d) : RVs hb h σ nx (vs.set i v) (ds.set i d) :=
  p.ind (M := fun vs ds => ∀ i, RVs hb h σ nx (vs.set i v) (ds.set i d)) (fun _ => .nil) (fun _ _ _ _ a b r i => Nat.casesOn i (.cons x b) fun i => .cons a (r i)) i
theorem RVs.eraseIdx (p : RVs hb h σ nx vs ds) : RVs hb h σ nx (vs.eraseIdx i) (ds.eraseIdx i) :=
  p.ind (M := fun vs ds => ∀ i, RVs hb h σ nx (vs.eraseIdx i) (ds.eraseIdx i)) (fun _ => .nil) (fun _ _ _ _ a b r i => Nat.casesOn i b fun i => .cons a (r i)) i
theorem RVs.take (p : RVs hb h σ nx vs ds) : RVs hb h σ nx (vs.take i) (ds.take i) :=
  p.ind (M := fun vs ds => ∀ i, RVs hb h σ nx (vs.take i) (ds.take i)) (fun i => Nat.casesOn i .nil fun _ => .nil) (fun _ _ _ _ a b r i => Nat.casesOn i .nil fun i => .cons a (r i)) i
theorem RVs.of_mem (p : RVs hb h σ nx vs ds) (m : v ∈ vs) : ∃ d, d ∈ ds ∧ RV hb h σ nx v d := by
  obtain ⟨i, hi⟩ := List.mem_iff_getElem?.mp m
  obtain ⟨d, e, r⟩ := p.get' hi
  exact ⟨d, List.mem_of_getElem? e, r⟩
end
theorem Inv.ro {hb σ H h} (I : Inv hb σ H h) {i o} (e : H.get i = some o) : i < H.next ∧ RO hb h σ H.next (σ i) o := by
  have hi : i < H.next := Nat.lt_of_not_le fun q => nomatch (I.out i q).symm.trans e
  obtain ⟨o', ho, r⟩ := I.dom i hi
  exact ⟨hi, Option.some.inj (ho.symm.trans e) ▸ r⟩
theorem Inv.list {hb σ H h} (I : Inv hb σ H h) {i l} (e : H.get i = some (.list l)) : i < H.next ∧ ∃ (vs : List Value) (n : Nat), h.get? (σ i).1 = some (listOf vs.toArray n) ∧ (σ i).2 = (σ i).1 ∧ RVs hb h σ H.next vs l := I.ro e
theorem Inv.inst {hb σ H h} (I : Inv hb σ H h) {i C fs} (e : H.get i = some (.inst C fs)) : i < H.next ∧ ∃ (es : List DictEntry) (n : Nat), h.get? (σ i).1 = some (instObj C (σ i).2) ∧ h.get? (σ i).2 = some (dictOf es n) ∧ Flds hb h σ H.next es fs := I.ro e
structure Ext (X : Addr → Prop) (h h' : Heap) : Prop where
  keep : ∀ b o, h.get? b = some o → ¬ X b → h'.get? b = some o
theorem Ext.refl {X h} : Ext X h h := ⟨fun _ _ e _ => e⟩
theorem Ext.trans {X h h' h''} (a : Ext X h h') (b : Ext X h' h'') : Ext X h h'' := ⟨fun x o e n => b.keep x o (a.keep x o e n) n⟩
theorem Ext.of_all {X h h'} (k : ∀ b o, h.get? b = some o → h'.get? b = some o) : Ext X h h' := ⟨fun b o e _ => k b o e⟩
theorem Ext.push {X h} (o : Obj) : Ext X h (h.push o) := .of_all fun _ _ e => Heap.get?_push_of_some _ e
theorem Ext.weak {X Y : Addr → Prop} {h h'} (a : Ext X h h') (w : ∀ b, X b → Y b) : Ext Y h h' := ⟨fun b o e n => a.keep b o e fun x => n (w b x)⟩
theorem Rl.of_ext {X σ H h h'} (x : Ext X h h') : Rl X σ H h σ H h' := ⟨Nat.le_refl _, fun _ _ => rfl, fun b o e n _ => x.keep b o e n, fun b o e n => ⟨o, x.keep b o e n⟩, fun i h1 h2 => absurd h1 (Nat.not_le_of_lt h2)⟩
theorem Inv.ext {hb σ H h h'} {X : Addr → Prop} (I : Inv hb σ H h) (x : Ext X h h') (hX : ∀ b, X b → ¬ Mut σ H.next b) (hXb : ∀ b, X b → hb.get? b = none)
    (hXt : ∀ b o, h.get? b = some o → X b → NotVal o) : Inv hb σ H h' := by
  have k : Keeps2 h σ H.next h' σ H.next := ⟨Nat.le_refl _, fun _ _ => rfl, fun a o e c ⟨vs, n, d⟩ => x.keep a o e fun y => (hXt a o e y).1 c vs n d, fun a o e c ⟨z, d⟩ => x.keep a o e fun y => (hXt a o e y).2 c z d⟩
  refine ⟨fun b o e => x.keep b o (I.keep b o e) fun y => (by rw [hXb b y] at e; cases e), I.out, fun i hi => ?_, I.above, I.inj⟩
  obtain ⟨o, ho, r⟩ := I.dom i hi
  have m1 : ¬ X (σ i).1 := fun y => hX _ y ⟨i, hi, .inl rfl⟩
  have m2 : ¬ X (σ i).2 := fun y => hX _ y ⟨i, hi, .inr rfl⟩
  refine ⟨o, ho, ?_⟩
  cases o with
  | list l => obtain ⟨vs, n, e1, e2, e3⟩ := r; exact ⟨vs, n, x.keep _ _ e1 m1, e2, e3.mono k⟩
  | inst C fs => obtain ⟨es, n, e1, e2, e3⟩ := r; exact ⟨es, n, x.keep _ _ e1 m1, x.keep _ _ e2 m2, e3.mono k⟩
theorem Inv.extAll {hb σ H h h'} (I : Inv hb σ H h) (k : ∀ b o, h.get? b = some o → h'.get? b = some o) : Inv hb σ H h' :=
  I.ext (X := NoX) (.of_all k) (fun _ x => x.elim) (fun _ x => x.elim) (fun _ _ _ x => x.elim)
theorem Rl.all {X σ H h h'} (k : ∀ b o, h.get? b = some o → h'.get? b = some o) : Rl X σ H h σ H h' := .of_ext (.of_all k)
end Mine
namespace Mine
open PySem PySem.W PySem.Calls PyProof.Rows PySem.Spec
noncomputable abbrev Pr := Sg → PH → Heap → Prop
noncomputable abbrev Rr (α β : Type) := Sg → PH → Heap → α → β → Prop
noncomputable def Stb (hb : Heap) (P : Pr) : Prop := ∀ σ H h σ' H' h', Inv hb σ H h → Rl NoX σ H h σ' H' h' → Inv hb σ' H' h' → P σ H h → P σ' H' h'
noncomputable abbrev Kt (hb : Heap) {α β : Type} (R : Rr α β) (σ : Sg) (H : PH) (s : Shared) (Φ : β → PH → Prop) (Q : α → Shared → Prop) : Prop :=
  ∀ a σ' h' tk' b H', Φ b H' → Inv hb σ' H' h' → Rl NoX σ H s.heap σ' H' h' → R σ' H' h' a b → Q a { s with heap := h', toks := tk' }
noncomputable def Sm (prog : Program) (w : World) (hb : Heap) (A : Around) {α β : Type} (P : Pr) (t : Sem α) (R : Rr α β) (m : CM β) : Prop :=
  ∀ (σ : Sg) (H : PH) (s : Shared) (Φ : β → PH → Prop), Inv hb σ H s.heap → P σ H s.heap → m Φ H → ∀ (Q : α → Shared → Prop) (E : Value → Shared → Prop), Kt hb R σ H s Φ Q → wpAny (model prog w) A t Q E s
noncomputable abbrev IsV (hb : Heap) : Rr Value PV := fun σ H h v d => RV hb h σ H.next v d
noncomputable abbrev IsVs (hb : Heap) : Rr (List Value) (List PV) := fun σ H h v d => RVs hb h σ H.next v d
noncomputable abbrev IsB : Rr Bool Bool := fun _ _ _ a b => a = b
noncomputable abbrev IsU : Rr Unit Unit := fun _ _ _ _ _ => True
theorem Stb.val {hb} {v d} : Stb hb fun σ H h => IsV hb σ H h v d := fun _ _ _ _ _ _ I r _ x => x.up r I
theorem Stb.vals {hb} {v d} : Stb hb fun σ H h => IsVs hb σ H h v d := fun _ _ _ _ _ _ I r _ x => x.up r I
theorem Stb.and {hb} {P P' : Pr} (a : Stb hb P) (b : Stb hb P') : Stb hb fun σ H h => P σ H h ∧ P' σ H h := fun _ _ _ _ _ _ I r J x => ⟨a _ _ _ _ _ _ I r J x.1, b _ _ _ _ _ _ I r J x.2⟩
theorem Stb.const {hb} {p : Prop} : Stb hb fun _ _ _ => p := fun _ _ _ _ _ _ _ _ _ x => x
section
variable {prog : Program} {w : World} {hb : Heap} {A : Around} {α β γ δ : Type} {P P' : Pr} {t t' : Sem α} {f : α → Sem γ} {m : CM β} {g : β → CM δ} {R R' : Rr α β} {R2 : Rr γ δ}
theorem Sm.bind (x : Sm prog w hb A P t R m) (y : ∀ a b, Sm prog w hb A (fun σ H h => P σ H h ∧ R σ H h a b) (f a) R2 (g b)) (st : Stb hb P) : Sm prog w hb A P (t >>= f) R2 (bindC m g) :=
  fun σ H s Φ I p e Q E k => wpAny_bind (x σ H s _ I p e _ E fun a σ1 h1 tk1 b H1 e1 I1 r1 q1 =>
    y a b σ1 H1 { s with heap := h1, toks := tk1 } Φ I1 ⟨st _ _ _ _ _ _ I r1 I1 p, q1⟩ e1 Q E fun a2 σ2 h2 tk2 b2 H2 e2 I2 r2 q2 => k a2 σ2 h2 tk2 b2 H2 e2 I2 (r1.trans r2) q2)
theorem Sm.imp (x : Sm prog w hb A P t R m) (i : ∀ σ H h, P' σ H h → P σ H h) : Sm prog w hb A P' t R m :=
  fun σ H s Φ I p e Q E k => x σ H s Φ I (i _ _ _ p) e Q E k
theorem Sm.impR (x : Sm prog w hb A P t R m) (i : ∀ σ H h a b, R σ H h a b → R' σ H h a b) : Sm prog w hb A P t R' m :=
  fun σ H s Φ I p e Q E k => x σ H s Φ I p e Q E fun a σ' h' tk' b H' φ I' r q => k a σ' h' tk' b H' φ I' r (i _ _ _ _ _ q)
theorem Sm.holding {vs : List Value} (x : Sm prog w hb A P t R m) : Sm prog w hb A P (holding vs t) R m :=
  fun σ H s Φ I p e Q E k => wpAny_holding (x σ H s Φ I p e Q E k)
theorem Sm.at {q : Pos} (x : Sm prog w hb A P t R m) : Sm prog w hb A P (standAt q >>= fun _ => t) R m :=
  fun σ H s Φ I p e Q E k => wpAny_bind (wpAny_standAt (x σ H s Φ I p e Q E k))
theorem Sm.operate {t : Sem Value} {R : Rr Value β} {vs : List Value} (x : Sm prog w hb A P t R m) : Sm prog w hb A P (operate vs t) R m :=
  fun σ H s Φ I p e Q E k => fun Γ q hΓ => by rw [Sem.wp_operate]; exact x σ H s Φ I p e Q E k Γ q hΓ
theorem Sm.pure {a : α} {b : β} (r : ∀ σ H h, P σ H h → R σ H h a b) : Sm prog w hb A P (pure a) R (pureC b) :=
  fun σ H s Φ I p e Q E k => wpAny_pure (k a σ s.heap s.toks b H e I .refl (r _ _ _ p))
theorem Sm.map {f : α → γ} {g : β → δ} (x : Sm prog w hb A P t R m) (st : Stb hb P)
    (y : ∀ σ H h a b, P σ H h → R σ H h a b → R2 σ H h (f a) (g b)) : Sm prog w hb A P (t >>= fun a => Pure.pure (f a)) R2 (bindC m fun b => pureC (g b)) :=
  x.bind (fun a b => Sm.pure fun σ H h p => y σ H h a b p.1 p.2) st
theorem Sm.fail : Sm prog w hb A P t R failC := fun _ _ _ _ _ _ e => e.elim
theorem Sm.eqT (x : Sm prog w hb A P t R m) (e : t' = t) : Sm prog w hb A P t' R m := e ▸ x
theorem Sm.opt {o : Option β} (x : ∀ b, o = some b → Sm prog w hb A P t R (pureC b)) : Sm prog w hb A P t R (optC o) := by
  cases o with
  | none => exact fun _ _ _ _ _ _ e => e.elim
  | some b => exact x b rfl
theorem Sm.ite {c : Bool} {m' : CM β} (x : c = true → Sm prog w hb A P t R m) (y : c = false → Sm prog w hb A P t R m') : Sm prog w hb A P t R (condC c m m') := by
  cases c with
  | true => exact x rfl
  | false => exact y rfl
theorem Sm.left {R2 : Rr γ β} (x : Sm prog w hb A P t R m) (st : Stb hb P)
    (y : ∀ a b, Sm prog w hb A (fun σ H h => P σ H h ∧ R σ H h a b) (f a) R2 (pureC b)) : Sm prog w hb A P (t >>= f) R2 m :=
  fun σ H s Φ I p e Q E k => wpAny_bind (x σ H s _ I p e _ E fun a σ1 h1 tk1 b H1 e1 I1 r1 q1 =>
    y a b σ1 H1 { s with heap := h1, toks := tk1 } Φ I1 ⟨st _ _ _ _ _ _ I r1 I1 p, q1⟩ e1 Q E fun a2 σ2 h2 tk2 b2 H2 e2 I2 r2 q2 => k a2 σ2 h2 tk2 b2 H2 e2 I2 (r1.trans r2) q2)
end
structure ScOk (sc : Scope) (env : Env) : Prop where
  at_ : ∀ x k, sc.names.lookup x = some k → env.kindOf x = some k ∨ (k = .free ∧ env.kindOf x = some .cell)
structure Frm (hb : Heap) (sc : Scope) (env : Env) (ℓ : Loc) (σ : Sg) (H : PH) (h : Heap) : Prop where
  sc : ScOk sc env
  kind : env.scope.kind = .function
  glob : env.globals = mainGlobals
  bi : env.builtins = builtinsNs
  ns : ∃ m, h.Ns env.locals m ∧ ∀ x v, ℓ x = some v → env.kindOf x = some .local → ∃ cv, m x = some cv ∧ RV hb h σ H.next cv v
  cell : ∀ x v, ℓ x = some v → env.kindOf x = some .cell ∨ env.kindOf x = some .free → ∃ c cv, env.cells.lookup x = some c ∧ h.IsCell c (some cv) ∧ RV hb h σ H.next cv v
  cells : ∀ x, env.kindOf x = some .cell ∨ env.kindOf x = some .free → ∃ c, env.cells.lookup x = some c
  cellAt : ∀ x c, (x, c) ∈ env.cells → ∃ v, h.IsCell c v
  apart : env.cells.Pairwise fun x y => x.2 ≠ y.2
  own : ¬ Mut σ H.next env.locals
  base : hb.get? env.locals = none
  cbase : ∀ x c, (x, c) ∈ env.cells → hb.get? c = none
theorem Frm.stb {hb sc env ℓ} : Stb hb (Frm hb sc env ℓ) := by
  intro σ H h σ' H' h' I r J F
  have k := r.keeps I
  obtain ⟨m, hn, hm⟩ := F.ns
  have hL : ∀ o, h.get? env.locals = some o → h'.get? env.locals = some o := fun o e => r.keep _ _ e id F.own
  have hC : ∀ {c v}, h.IsCell c v → h'.IsCell c v := fun {c v} x => by
    obtain ⟨o, ho, hd⟩ := id x
    exact ⟨o, r.keep _ _ ho id (I.notMut_cell x), hd⟩
  obtain ⟨oL, _, _, hoL, _⟩ := id hn
  refine ⟨F.sc, F.kind, F.glob, F.bi, ⟨m, hn.at' hL, fun x v e q => ?_⟩, fun x v e q => ?_, F.cells, fun x c e => ?_, F.apart, r.mut hoL id F.own, F.base, F.cbase⟩
  · obtain ⟨cv, h1, h2⟩ := hm x v e q; exact ⟨cv, h1, h2.mono k⟩
  · obtain ⟨c, cv, h1, h2, h3⟩ := F.cell x v e q; exact ⟨c, cv, h1, hC h2, h3.mono k⟩
  · obtain ⟨v, hv⟩ := F.cellAt x c e; exact ⟨v, hC hv⟩
noncomputable def OwnAll (env : Env) (b : Addr) : Prop := b = env.locals ∨ ∃ x, (x, b) ∈ env.cells
noncomputable def Own (sc : Scope) (env : Env) (b : Addr) : Prop := b = env.locals ∨ ∃ x, (x, b) ∈ env.cells ∧ sc.names.lookup x = some .cell
theorem Own.all {sc env b} (h : Own sc env b) : OwnAll env b := h.imp id fun ⟨x, q, _⟩ => ⟨x, q⟩
end Mine
namespace Mine
open PySem PySem.W PySem.Calls PyProof.Rows PySem.Spec
noncomputable def sgUpd (σ : Sg) (i : Nat) (ad : Addr × Addr) : Sg := fun j => if j = i then ad else σ j
theorem sgUpd_at {σ i ad} : sgUpd σ i ad i = ad := if_pos rfl
theorem sgUpd_ne {σ i ad j} (h : j ≠ i) : sgUpd σ i ad j = σ j := if_neg h
theorem push_get_lt {H : PH} {o : PO} {i : Nat} (h : i < H.next) : (H.push o).get i = H.get i := if_neg (Nat.ne_of_lt h)
theorem push_get_self {H : PH} {o : PO} : (H.push o).get H.next = some o := if_pos rfl
theorem push_get_gt {H : PH} {o : PO} {i : Nat} (h : H.next < i) : (H.push o).get i = H.get i := if_neg (Nat.ne_of_gt h)
theorem push_next {H : PH} {o : PO} : (H.push o).next = H.next + 1 := rfl
theorem set_get_self {H : PH} {o : PO} {i : Nat} : (H.set i o).get i = some o := if_pos rfl
theorem set_get_ne {H : PH} {o : PO} {i j : Nat} (h : j ≠ i) : (H.set i o).get j = H.get j := if_neg h
theorem set_next {H : PH} {o : PO} {i : Nat} : (H.set i o).next = H.next := rfl
theorem RO.mono {hb h h' : Heap} {σ σ' : Sg} {nx nx' : Nat} {ad : Addr × Addr} {o : PO} (k : Keeps2 h σ nx h' σ' nx') (r : RO hb h σ nx ad o) (e1 : ∀ x, h.get? ad.1 = some x → h'.get? ad.1 = some x) (e2 : ∀ x, h.get? ad.2 = some x → h'.get? ad.2 = some x) : RO hb h' σ' nx' ad o := by
  cases o with
  | list l => exact let ⟨vs, n, a, b, c⟩ := r; ⟨vs, n, e1 _ a, b, c.mono k⟩
  | inst C fs => exact let ⟨es, n, a, b, c⟩ := r; ⟨es, n, e1 _ a, e2 _ b, c.mono k⟩
theorem RO.here {hb h σ nx ad o} (r : RO hb h σ nx ad o) : (∃ x, h.get? ad.1 = some x) ∧ ∃ x, h.get? ad.2 = some x := by
  cases o with
  | list l => exact let ⟨_, _, a, b, _⟩ := r; ⟨⟨_, a⟩, ⟨_, b ▸ a⟩⟩
  | inst C fs => exact let ⟨_, _, a, b, _⟩ := r; ⟨⟨_, a⟩, ⟨_, b⟩⟩
theorem noSome {α : Type} {x : Option α} {a : α} {p : Prop} (e : x = none) (e' : x = some a) : p := nomatch e.symm.trans e'
theorem noneOf {α : Type} {x y : Option α} (k : ∀ o, x = some o → y = some o) (e : y = none) : x = none := by
  cases x with
  | none => rfl
  | some o => exact noSome e (k o rfl)
theorem ltS {i n : Nat} (h : i < n + 1) : i < n ∨ i = n := Nat.lt_succ_iff_lt_or_eq.mp h
theorem Inv.add {hb σ H h h'} (I : Inv hb σ H h) (k : ∀ b o, h.get? b = some o → h'.get? b = some o) {a d : Addr} (fa : h.get? a = none) (fd : h.get? d = none) {o : PO}
    (r : RO hb h' (sgUpd σ H.next (a, d)) (H.next + 1) (a, d) o) : Inv hb (sgUpd σ H.next (a, d)) (H.push o) h' ∧ Rl NoX σ H h (sgUpd σ H.next (a, d)) (H.push o) h' := by
  have old : ∀ i, i < H.next → sgUpd σ H.next (a, d) i = σ i := fun i hi => sgUpd_ne (Nat.ne_of_lt hi)
  have new : sgUpd σ H.next (a, d) H.next = (a, d) := sgUpd_at
  generalize sgUpd σ H.next (a, d) = τ at old new r ⊢
  have k2 : Keeps2 h σ H.next h' τ (H.next + 1) := ⟨Nat.le_succ _, old, fun _ _ e _ _ => k _ _ e, fun _ _ e _ _ => k _ _ e⟩
  have fb : ∀ x, h.get? x = none → hb.get? x = none := fun x => noneOf (I.keep x)
  have ne : ∀ i, i < H.next → ∀ x, h.get? x = none → (σ i).1 ≠ x ∧ (σ i).2 ≠ x := fun i hi x fx =>
    let ⟨_, _, r⟩ := I.dom i hi
    let ⟨⟨_, hx⟩, ⟨_, hy⟩⟩ := r.here
    ⟨fun q => noSome fx (q ▸ hx), fun q => noSome fx (q ▸ hy)⟩
  refine ⟨⟨fun b o e => k _ _ (I.keep b o e), fun i hi => (push_get_gt (Nat.lt_of_succ_le hi)).trans (I.out i (Nat.le_of_succ_le hi)), fun i hi => ?_, fun i hi => ?_, fun i j hi hj hij => ?_⟩, ⟨Nat.le_succ _, old, fun b o e _ _ => k _ _ e, fun b o e _ => ⟨o, k _ _ e⟩, fun i h1 h2 => ?_⟩⟩
  · rcases ltS hi with hi | rfl
    · obtain ⟨o', ho, r'⟩ := I.dom i hi
      exact ⟨o', (push_get_lt hi).trans ho, old i hi ▸ r'.mono k2 (fun x => k _ x) (fun x => k _ x)⟩
    · exact ⟨o, push_get_self, new ▸ r⟩
  · rcases ltS hi with hi | rfl
    · rw [old i hi]; exact I.above i hi
    · rw [new]; exact ⟨fb _ fa, fb _ fd⟩
  · rcases ltS hi with hi | rfl
    · rw [old i hi]
      rcases ltS hj with hj | rfl
      · rw [old j hj]; exact I.inj i j hi hj hij
      · rw [new]; exact ⟨(ne i hi a fa).1, (ne i hi d fd).1, (ne i hi d fd).2⟩
    · rw [new]
      rcases ltS hj with hj | rfl
      · rw [old j hj]; exact ⟨(ne j hj a fa).1.symm, (ne j hj a fa).2.symm, (ne j hj d fd).2.symm⟩
      · exact absurd rfl hij
  · have e : i = H.next := Nat.le_antisymm (Nat.le_of_lt_succ h2) h1
    rw [e, new]; exact ⟨fun o e => noSome fa e, fun o e => noSome fd e⟩
theorem get_size_none' (h : Heap) {a : Addr} (ha : h.objs.size ≤ a) : h.get? a = none := by
  cases e : h.get? a with
  | none => rfl
  | some o => exact absurd (Heap.lt_size e) (Nat.not_lt_of_le ha)
theorem get_size_none (h : Heap) : h.get? h.objs.size = none := get_size_none' h (Nat.le_refl _)
theorem Inv.addList {hb σ H h} (I : Inv hb σ H h) {vs : List Value} {l : List PV} (r : RVs hb h σ H.next vs l) :
    Inv hb (sgUpd σ H.next (h.objs.size, h.objs.size)) (H.push (.list l)) (h.push (listOf vs.toArray 0)) ∧ Rl NoX σ H h (sgUpd σ H.next (h.objs.size, h.objs.size)) (H.push (.list l)) (h.push (listOf vs.toArray 0)) ∧
      RV hb (h.push (listOf vs.toArray 0)) (sgUpd σ H.next (h.objs.size, h.objs.size)) (H.push (.list l)).next (.ref h.objs.size) (.obj H.next) := by
  have k : ∀ b o, h.get? b = some o → (h.push (listOf vs.toArray 0)).get? b = some o := fun b o e => Heap.get?_push_of_some _ e
  have k2 : Keeps2 h σ H.next (h.push (listOf vs.toArray 0)) (sgUpd σ H.next (h.objs.size, h.objs.size)) (H.next + 1) := ⟨Nat.le_succ _, fun i hi => sgUpd_ne (Nat.ne_of_lt hi), fun _ _ e _ _ => k _ _ e, fun _ _ e _ _ => k _ _ e⟩
  obtain ⟨a, b⟩ := I.add k (get_size_none h) (get_size_none h) (o := .list l) ⟨vs, 0, Heap.get?_push_size _ rfl, rfl, r.mono k2⟩
  refine ⟨a, b, ?_⟩
  have := RV.obj (hb := hb) (h := h.push (listOf vs.toArray 0)) (σ := sgUpd σ H.next (h.objs.size, h.objs.size)) (nx := H.next + 1) (i := H.next) (Nat.lt_succ_self _)
  rw [sgUpd_at] at this
  exact this
theorem Inv.setAt {hb σ H h h'} (I : Inv hb σ H h) {i : Nat} (hi : i < H.next) {o : PO} {b0 : Addr} {ob : Obj} (h0 : b0 = (σ i).1 ∨ b0 = (σ i).2) (hs : ∀ b, b ≠ b0 → h'.get? b = h.get? b) (e : h'.get? b0 = some ob)
    (r : Keeps2 h σ H.next h' σ H.next → RO hb h' σ H.next (σ i) o) : Inv hb σ (H.set i o) h' ∧ Rl NoX σ H h σ (H.set i o) h' := by
  have nt : ∀ {a o s}, h.get? a = some o → o.cls = .type s → s ≠ "list" ∧ s ≠ "dict" → h'.get? a = some o := fun {a o s} q c n => (hs a fun z => I.notMut_cls q c n ⟨i, hi, z.symm ▸ h0⟩).trans q
  have k2 : Keeps2 h σ H.next h' σ H.next := ⟨Nat.le_refl _, fun _ _ => rfl, fun a o q c _ => nt q c (by decide), fun a o q c _ => nt q c (by decide)⟩
  refine ⟨⟨fun b o q => (hs b fun z => ?_).trans (I.keep b o q), fun j hj => (set_get_ne (Nat.ne_of_gt (Nat.lt_of_lt_of_le hi hj))).trans (I.out j hj), fun j hj => ?_, I.above, I.inj⟩,
    ⟨Nat.le_refl _, fun _ _ => rfl, fun b o q _ m => (hs b fun z => m ⟨i, hi, z ▸ h0⟩).trans q, fun b o q _ => ?_, fun j h1 h2 => absurd h1 (Nat.not_le_of_lt h2)⟩⟩
  · have ab := I.above i hi
    rw [z] at q
    exact h0.elim (fun y => noSome ab.1 (y ▸ q)) fun y => noSome ab.2 (y ▸ q)
  · by_cases z : j = i
    · exact ⟨o, z ▸ set_get_self, z ▸ r k2⟩
    · obtain ⟨o', ho', r'⟩ := I.dom j hj
      have ij := I.inj j i hj hi z
      have ji := I.inj i j hi hj (Ne.symm z)
      exact ⟨o', (set_get_ne z).trans ho', r'.mono k2 (fun x q => (hs _ fun y => h0.elim (fun z => ij.1 (y.trans z)) fun z => ij.2.1 (y.trans z)).trans q) (fun x q => (hs _ fun y => h0.elim (fun z => ji.2.1 (y.trans z).symm) fun z => ij.2.2 (y.trans z)).trans q)⟩
  · by_cases z : b = b0
    · exact ⟨ob, z ▸ e⟩
    · exact ⟨o, (hs b z).trans q⟩
theorem Inv.setList {hb σ H h h'} (I : Inv hb σ H h) {i : Nat} {vs : List Value} {l l0 : List PV} {n : Nat} (e0 : H.get i = some (.list l0)) (hs : ∀ b, b ≠ (σ i).1 → h'.get? b = h.get? b)
    (e : h'.get? (σ i).1 = some (listOf vs.toArray n)) (r : RVs hb h σ H.next vs l) : Inv hb σ (H.set i (.list l)) h' ∧ Rl NoX σ H h σ (H.set i (.list l)) h' :=
  let ⟨hi, _, _, _, h2, _⟩ := I.list e0
  I.setAt hi (.inl rfl) hs e fun k2 => ⟨vs, n, e, h2, r.mono k2⟩
theorem Inv.setFlds {hb σ H h h'} (I : Inv hb σ H h) {i : Nat} {C : Addr} {es : List DictEntry} {fs fs0 : List (Str × PV)} {n : Nat} (e0 : H.get i = some (.inst C fs0)) (hs : ∀ b, b ≠ (σ i).2 → h'.get? b = h.get? b)
    (e : h'.get? (σ i).2 = some (dictOf es n)) (r : Flds hb h σ H.next es fs) : Inv hb σ (H.set i (.inst C fs)) h' ∧ Rl NoX σ H h σ (H.set i (.inst C fs)) h' :=
  let ⟨hi, _, _, ho1, ho, _⟩ := I.inst e0
  I.setAt hi (.inr rfl) hs e fun k2 => ⟨es, n, (hs _ fun z => nomatch (congrArg Obj.cls (Option.some.inj (ho1.symm.trans ((congrArg h.get? z).trans ho))) : Value.ref C = Value.type "dict")).trans ho1, e, r.mono k2⟩
theorem Inv.addTup {hb σ H h} (I : Inv hb σ H h) {vs : List Value} {l : List PV} (r : RVs hb h σ H.next vs l) :
    Inv hb σ H (h.push { cls := .type "tuple", data := .seq vs.toArray }) ∧ Rl NoX σ H h σ H (h.push { cls := .type "tuple", data := .seq vs.toArray }) ∧ RV hb (h.push { cls := .type "tuple", data := .seq vs.toArray }) σ H.next (.ref h.objs.size) (.tup l) := by
  have k : ∀ b o, h.get? b = some o → (h.push { cls := .type "tuple", data := .seq vs.toArray }).get? b = some o := fun b o e => Heap.get?_push_of_some _ e
  have R : Rl NoX σ H h σ H (h.push { cls := .type "tuple", data := .seq vs.toArray }) := .all k
  refine ⟨I.extAll k, R, ?_⟩
  exact .tup (Heap.get?_push_size _ rfl) rfl rfl (by simpa using r.mono (R.keeps I))
section
variable {prog : Program} {w : World} {hb : Heap} {A : Around}
theorem size_le {n : Nat} (h : n ≤ 1000000) : n ≤ sizeLine := by rw [sizeLine_eq]; omega
theorem sm_newList {vs : List Value} {l : List PV} : Sm prog w hb A (fun σ H h => IsVs hb σ H h vs l) (newList vs) (IsV hb) (allocC l) := by
  intro σ H s Φ I p ⟨hl, e⟩ Q E k
  have p : RVs hb s.heap σ H.next vs l := p
  obtain ⟨a, r, v⟩ := I.addList p
  exact wpAny_newList (k _ _ _ _ _ _ e a r v) (size_le (by have := p.length; omega))
theorem sm_newTuple {vs : List Value} {l : List PV} : Sm prog w hb A (fun σ H h => IsVs hb σ H h vs l) (newTuple vs) (IsV hb) (tupC l) := by
  intro σ H s Φ I p ⟨hl, e⟩ Q E k
  have p : RVs hb s.heap σ H.next vs l := p
  obtain ⟨a, r, v⟩ := I.addTup p
  exact wpAny_newTuple (k _ _ _ _ _ _ e a r v) (size_le (by have := p.length; omega))
theorem sm_const {c : Const} {env : Env} {P : Pr} : Sm prog w hb A P (constValue env c) (IsV hb) (optC (constP c)) := by
  intro σ H s Φ I p e Q E k
  cases c with
  | none => exact wpAny_pure (k _ _ s.heap s.toks _ _ e I .refl .none)
  | bool x => exact wpAny_pure (k _ _ s.heap s.toks _ _ e I .refl (.bool x))
  | int i => exact wpAny_mkInt (k _ _ s.heap _ _ _ e I .refl (.int i _))
  | str x => exact wpAny_mkText (k _ _ s.heap _ _ _ e I .refl (.str x _))
  | bytes x => exact wpAny_bind (nd_fresh (wpAny_pure (wpAny_pure (k _ _ s.heap (s.toks + 1) _ _ e I .refl (.bytes x.toArray s.toks)))))
  | _ => exact e.elim
theorem bne_dec {x : Int} : (x != 0) = decide (x ≠ 0) := by rw [bne, decide_not]; rfl
theorem bne_len {n : Nat} : ((n : Int) != 0) = decide (n ≠ 0) := bne_dec.trans (decide_eq_decide.mpr (not_congr Int.natCast_eq_zero))
theorem sm_truth {v : Value} {d : PV} : Sm prog w hb A (fun σ H h => IsV hb σ H h v d) (truthy v) IsB (truthC d) := by
  intro σ H s Φ I p e Q E k
  have p := RV.inv p
  cases d with
  | none => exact p ▸ fun _ _ _ => k _ _ s.heap s.toks _ _ e I .refl rfl
  | bool x => exact p ▸ wpAny_truthy_bool (k _ _ s.heap s.toks _ _ e I .refl rfl)
  | int i => exact let ⟨t, q⟩ := p; q ▸ P.truthy_int (k _ _ s.heap s.toks _ _ e I .refl bne_dec)
  | str x => exact let ⟨t, q⟩ := p; q ▸ P.truthy_str (by have := e.1; omega) (k _ _ s.heap _ _ _ e.2 I .refl bne_len)
  | bytes x => exact let ⟨t, q⟩ := p; q ▸ truthy_bytes (by have := e.1; omega) (k _ _ s.heap _ _ _ e.2 I .refl bne_len)
  | _ => exact e.elim
end
end Mine
namespace Mine
open PySem PySem.W PySem.Calls PyProof.Rows PySem.Spec
section
variable {prog : Program} {w : World} {hb : Heap} {A : Around}
theorem small_bits {x : Int} (h : small x) : Builtin.Int.intBits x ≤ 64 := intBits_le_64 (by have := h.1; omega) (by have := h.2; omega)
theorem flat_rep (vs : List Value) (k : Nat) : List.foldl (fun x1 x2 => x1 ++ x2) #[] (List.replicate (if vs.toArray.isEmpty = true then 0 else k) vs.toArray) = (List.replicate k vs).flatten.toArray := by
  have aux : ∀ (n : Nat) (acc : Array Value), List.foldl (fun x1 x2 => x1 ++ x2) acc (List.replicate n vs.toArray) = acc ++ (List.replicate n vs).flatten.toArray := by
    intro n
    induction n with
    | zero => exact fun acc => Array.append_empty.symm
    | succ n ih => intro acc; rw [List.replicate_succ, List.foldl_cons, ih, List.replicate_succ, List.flatten_cons, ← List.append_toArray, Array.append_assoc]
  rw [aux, Array.empty_append]
  cases vs with
  | nil =>
    have z : ∀ m : Nat, (List.replicate m ([] : List Value)).flatten = [] := fun m => by
      induction m with
      | zero => rfl
      | succ m ih => exact ih
    rw [z, z]
  | cons v vs => rfl
theorem RVs.rep {hb h σ nx} {vs ds} (r : RVs hb h σ nx vs ds) : ∀ k : Nat, RVs hb h σ nx (List.replicate k vs).flatten (List.replicate k ds).flatten
  | 0 => .nil
  | k + 1 => by rw [List.replicate_succ, List.flatten_cons, List.replicate_succ, List.flatten_cons]; exact r.append (r.rep k)
theorem mulL {E : Value → Shared → Prop} {s : Shared} {l : Addr} {vs : List Value} {n : Nat} {kk : Int} {tk : Tok} {Q : Value → Shared → Prop} (ho : s.heap.get? l = some (listOf vs.toArray n)) (h0 : 0 ≤ kk) (h1 : kk ≤ 10) (hl : vs.length ≤ 10)
    (h : Q (.ref s.heap.objs.size) { s with heap := s.heap.push (listOf (List.replicate kk.toNat vs).flatten.toArray 0) }) : wpAny (model prog w) A (binaryOp .Mult (.ref l) (.int kk tk)) Q E s := by
  have hz : vs.toArray.size * kk.toNat ≤ 100 := by rw [List.size_toArray]; exact Nat.le_trans (Nat.mul_le_mul hl (show kk.toNat ≤ 10 by omega)) (by decide)
  have hlt : Builtin.List.listTooLong (vs.toArray.size * kk.toNat) = false := by
    unfold Builtin.List.listTooLong; rw [sizeLine_eq]; exact decide_eq_false (by omega)
  refine wpAny_binaryOp_repeat_ref (T := "list") (U := "int") (by decide) ⟨_, ho, rfl⟩ (fun s' => typeIs_int s' kk tk) noFill_list_mul F.fills_int_mul F.slot_int_rmul repeat_list F.slot_int_index.lookup
    (call_meets F.slot_int_rmul (typeIs_int s kk tk) F.entry_int_rmul (F.args_int_rmul_2 _ _) (int___rmul___int_list kk tk _ vs.toArray n)
      ⟨ho, rfl, ⟨_, ho, rfl⟩, call_meets F.slot_list_mul ⟨_, ho, rfl⟩ F.entry_list_mul (F.args_list_mul_2 _ _)
        (AutoListH.list___mul___list_int_3 _ vs.toArray n kk tk (by simp [Builtin.List.listFitsIndex]; omega) (by omega) (by rw [hlt]; decide))
        ⟨ho, ?_⟩⟩)
  rw [flat_rep]
  exact h
theorem sm_bin {op : Operator} {x y : Value} {a b : PV} : Sm prog w hb A (fun σ H h => IsV hb σ H h x a ∧ IsV hb σ H h y b) (binaryOp op x y) (IsV hb) (BinC op a b) := by
  intro σ H s Φ I ⟨p, q⟩ e Q E k
  have p := RV.inv p
  have q := RV.inv q
  have gi : ∀ (z : Int) t tk, Φ (.int z) H → Q (.int z t) { s with toks := tk } := fun z t tk e => k _ _ s.heap tk _ _ e I .refl (.int z t)
  cases e with
  | add x y h ha hb e => subst h ha hb; exact let ⟨_, p⟩ := p; let ⟨_, q⟩ := q; p ▸ q ▸ P.add_int (gi _ _ _ e)
  | sub x y h ha hb e => subst h ha hb; exact let ⟨_, p⟩ := p; let ⟨_, q⟩ := q; p ▸ q ▸ P.sub_int (gi _ _ _ e)
  | mul x y h ha hb sx e => subst h ha hb; exact let ⟨_, p⟩ := p; let ⟨_, q⟩ := q; p ▸ q ▸ P.mul_int (gi _ _ _ e) (IntMulOk.of_left (small_bits sx))
  | div x y h ha hb g e => subst h ha hb; exact let ⟨_, p⟩ := p; let ⟨_, q⟩ := q; p ▸ q ▸ PyProof.Rows.floordiv_int g.1 (gi _ _ _ e) (.inl (PyProof.noPylong_small g.2))
  | mod x y h ha hb g e => subst h ha hb; exact let ⟨_, p⟩ := p; let ⟨_, q⟩ := q; p ▸ q ▸ PyProof.Rows.mod_int' g (gi _ _ _ e)
  | pow x y h ha hb g sx e => subst h ha hb; exact let ⟨_, p⟩ := p; let ⟨_, q⟩ := q; p ▸ q ▸ PyProof.Rows.pow_int_small g.1 (by have := g.2; omega) (by have := sx.1; have := sx.2; omega) (gi _ _ _ e)
  | addS x y h ha hb g e => subst h ha hb; exact let ⟨_, p⟩ := p; let ⟨_, q⟩ := q; p ▸ q ▸ PyProof.Rows.add_str (fun t' tk => k _ _ s.heap _ _ _ e I .refl (.str _ _)) (size_le (by omega))
  | addL i j l m h ha hb gi gj g e =>
    subst h ha hb
    obtain ⟨_, vs, n, ho1, _, r1⟩ := I.list gi
    obtain ⟨_, ws, m, ho2, _, r2⟩ := I.list gj
    obtain ⟨a, r, v⟩ := I.addList (r1.append r2)
    have go := k _ _ _ s.toks _ _ e a r v
    rw [← List.append_toArray] at go
    rw [p.1, q.1]
    exact P.add_list ho1 ho2 go (by have l1 := r1.length; have l2 := r2.length; rw [List.size_toArray, List.size_toArray]; exact size_le (by omega))
  | mulL i y l h ha hb gi g e =>
    subst h ha hb
    obtain ⟨_, vs, n, ho1, _, r1⟩ := I.list gi
    obtain ⟨a, r, v⟩ := I.addList (r1.rep y.toNat)
    exact let ⟨_, q⟩ := q; p.1 ▸ q ▸ mulL ho1 g.2.1 g.2.2 (r1.length ▸ g.1) (k _ _ _ s.toks _ _ e a r v)
theorem sm_un {op : UnaryOp} {x : Value} {a : PV} : Sm prog w hb A (fun σ H h => IsV hb σ H h x a) (unaryOp op x) (IsV hb) (UnC op a) := by
  intro σ H s Φ I p e Q E k
  cases e with
  | neg x h ha e => subst h ha; exact let ⟨_, p⟩ := RV.inv p; p ▸ P.neg_int (k _ _ s.heap _ _ _ e I .refl (.int _ _))
  | not h e => subst h; exact PyProof.Rows.not_of (sm_truth σ H s _ I p e _ E fun a' σ' h' tk' b H' e' I' r' q' => k _ _ h' tk' _ _ (q' ▸ e') I' r' (.bool _))
end
end Mine
namespace Mine
open PySem PySem.W PySem.Calls PyProof.Rows PySem.Spec PySem.SeqAt
theorem bytes_eq_none (a : Array UInt8) (t : Tok) : Gives (Builtin.«bytes.__eq__» ⟨[.bytes a t, .none], []⟩) (.val Value.notImplemented) := by
  refine .of_wp fun M A E s Q hq => ?_
  show wpAny M A (isInstance .none (.type "bytes") >>= fun r => _) _ E s
  refine wpAny_bind (wpAny_isInstance (PySem.typeIs_none s) F.sub_NoneType_bytes ?_)
  refine wpAny_bind (wpAny_isInstance (PySem.typeIs_none s) F.sub_NoneType_bytes ?_)
  exact wpAny_bind (wpAny_rule (wpAny_pure ⟨_, rfl, hq⟩))
theorem none_eq_bytes (a : Array UInt8) (t : Tok) : Gives (Builtin.«NoneType.__eq__» ⟨[.none, .bytes a t], []⟩) (.val Value.notImplemented) := .of_eq rfl
theorem rc_bytes_none {A : Around} {s : Shared} (a : Array UInt8) (t : Tok) : RcAt A s (.bytes a t) .none false := fun prog w E Q h =>
  rc_eq_decline_or (k := false) (typeIs_bytes s a t) rfl (by decide) F.sub_NoneType_bytes FB.slot_bytes_eq F.slot_NoneType_eq_refl
    (fun _ hq => call_gives FB.slot_bytes_eq (typeIs_bytes s a t) FB.entry_bytes_eq (FB.args_bytes_eq_2 _ _) (bytes_eq_none a t) hq)
    (fun _ hq => call_gives F.slot_NoneType_eq_refl rfl F.entry_NoneType_eq (F.args_NoneType_eq_2 _ _) (none_eq_bytes a t) hq)
    (fun _ hq => wpAny_of_eq (rfl : isSame (.bytes a t) .none = pure false) hq) (.inl rfl) h
theorem eq_bytes_none {A : Around} {s : Shared} (a : Array UInt8) (t : Tok) : EqAt A s (.bytes a t) .none false := fun prog w E Q h => by
  unfold eqBool
  refine wpAny_holding ?_
  refine wpAny_ite_split (fun hab => absurd (eq_of_beq hab) nofun) (fun _ => ?_)
  exact wpAny_bind (rc_bytes_none a t prog w E _ (wpAny_truthy_bool h))
structure EqT (A : Around) (s : Shared) (v w : Value) (a : PV) (r : Bool) : Prop where
  same : v = w → r = true
  eq : EqAt A s v w r
  rc : RcAt A s v w r
  ne : noBytes a = true → RcNeAt A s v w (!r)
structure EqL (A : Around) (s : Shared) (vs ws : List Value) (r : Bool) : Prop where
  same : vs = ws → r = true
  at_ : ∃ e : Nat → Bool, (∀ j (h1 : j < vs.length) (h2 : j < ws.length), EqAt A s vs[j] ws[j] (e j)) ∧ r = (List.range (min vs.length ws.length)).all e
section
variable {A : Around} {s : Shared} {v w : Value} {vs ws : List Value} {x y : Bool} {a : PV}
theorem EqL.nil (h : min vs.length ws.length = 0) : EqL A s vs ws true :=
  ⟨fun _ => rfl, fun _ => true, fun j h1 h2 => absurd (Nat.lt_min.mpr ⟨h1, h2⟩) (h ▸ Nat.not_lt_zero j), by rw [h]; rfl⟩
theorem EqL.cons (h : EqT A s v w a x) (t : EqL A s vs ws y) : EqL A s (v :: vs) (w :: ws) (x && y) := by
  obtain ⟨t1, e, he, t2⟩ := t
  refine ⟨fun q => ?_, fun j => Nat.casesOn j x e, fun j => Nat.casesOn j (fun _ _ => h.eq) fun j h1 h2 => he j (Nat.lt_of_succ_lt_succ h1) (Nat.lt_of_succ_lt_succ h2), ?_⟩
  · injection q with q1 q2
    rw [h.same q1, t1 q2]; rfl
  · have : min (v :: vs).length (w :: ws).length = min vs.length ws.length + 1 := Nat.add_min_add_right vs.length ws.length 1
    rw [this, List.range_succ_eq_map, List.all_cons, List.all_map, t2]
    rfl
variable {a b : Addr} {vs ws : Array Value} {l : PV} {n : Nat}
theorem EqL.fn {vs ws : Array Value} (h : EqL A s vs.toList ws.toList x) : ∃ e : Nat → Bool, (∀ j (h1 : j < vs.size) (h2 : j < ws.size), EqAt A s vs[j] ws[j] (e j)) ∧ x = (List.range (min vs.size ws.size)).all e := h.at_
theorem EqT.tuples (t1 : s.heap.IsTuple a vs) (t2 : s.heap.IsTuple b ws) (hu : A.units < cLine) (h : EqL A.in1 s vs.toList ws.toList x) : EqT A s (.ref a) (.ref b) l (x && vs.size == ws.size) := by
  obtain ⟨f, hf, hx⟩ := h.fn
  have sm : Value.ref a = .ref b → (x && vs.size == ws.size) = true := fun q => by
    have e : vs = ws := by
      obtain ⟨o1, e1, c1, n1, d1⟩ := t1
      obtain ⟨o2, e2, c2, n2, d2⟩ := t2
      rw [Value.ref.inj q, e2] at e1
      rw [← Option.some.inj e1, d2] at d1
      injection d1 with d _
      exact d.symm
    rw [h.same (e ▸ rfl), e, beq_self_eq_true]; rfl
  have rc : RcAt A s (.ref a) (.ref b) (x && vs.size == ws.size) := hx ▸ RcAt.tuples t1 t2 hu hf
  refine ⟨sm, ?_, rc, fun _ => hx ▸ RcNeAt.tuples t1 t2 hu hf⟩
  by_cases hab : a = b
  · subst hab; rw [sm rfl]; exact .same _
  · exact .of_refs hab rc
theorem EqT.lists (hab : a ≠ b) (t1 : s.heap.IsList a vs) (t2 : s.heap.IsList b ws) (hz : vs.size = ws.size) (hu : A.units < cLine) (h : EqL A.in1 s vs.toList ws.toList x) : EqT A s (.ref a) (.ref b) l x := by
  obtain ⟨f, hf, hx⟩ := h.fn
  have hx' : (List.range vs.size).all f = x := by rw [hx, ← hz, Nat.min_self]
  have rc : RcAt A s (.ref a) (.ref b) x := hx' ▸ RcAt.lists t1 t2 hz hu fun j h1 h2 => hf j h1 h2
  exact ⟨fun q => absurd (Value.ref.inj q) hab, .of_refs hab rc, rc, fun _ => hx' ▸ RcNeAt.lists t1 t2 hz hu fun j h1 h2 => hf j h1 h2⟩
theorem EqT.lens (hab : a ≠ b) (t1 : s.heap.IsList a vs) (t2 : s.heap.IsList b ws) (hz : (vs.size != ws.size) = true) (hu : A.units < cLine) : EqT A s (.ref a) (.ref b) l false :=
  ⟨fun q => absurd (Value.ref.inj q) hab, .of_refs hab (RcAt.lists_lengths t1 t2 hz hu), RcAt.lists_lengths t1 t2 hz hu, fun _ => RcNeAt.lists_lengths t1 t2 hz hu⟩
end
section
variable {hb : Heap} {σ : Sg} {H : PH} {s : Shared} {A : Around}
theorem EqT.mk' {v w : Value} {a : PV} {r r' : Bool} (e : some r = some r') (sm : v = w → r = true) (h1 : EqAt A s v w r) (h2 : RcAt A s v w r) (h3 : noBytes a = true → RcNeAt A s v w (!r)) : EqT A s v w a r' :=
  Option.some.inj e ▸ ⟨sm, h1, h2, h3⟩
theorem atom_at {a b : PV} {r : Bool} {v w : Value} (e : eqAtom a b = some r) (p : RV.I hb s.heap σ H.next v a) (q : RV.I hb s.heap σ H.next w b) : EqT A s v w a r := by
  cases a with
  | none =>
    have p : v = .none := p
    subst p
    cases b with
    | none =>
      have q : w = .none := q
      subst q
      exact .mk' e (fun _ => rfl) (.same _) .none_none fun _ => .none_none
    | int y => exact let ⟨t, q⟩ := q; q ▸ .mk' e (fun q => nomatch q) (.none_int _ _) (.none_int _ _) fun _ => .none_int _ _
    | str y => exact let ⟨t, q⟩ := q; q ▸ .mk' e (fun q => nomatch q) (.none_str _ _) (.none_str _ _) fun _ => .none_str _ _
    | bool y => exact (q : w = .bool y) ▸ .mk' e (fun q => nomatch q) (.none_bool _) (.none_bool _) fun _ => .none_bool _
    | _ => exact nomatch e
  | int x =>
    obtain ⟨t, rfl⟩ := p
    cases b with
    | none => exact (q : w = .none) ▸ .mk' e (fun q => nomatch q) (.int_none _ _) (.int_none _ _) fun _ => .int_none _ _
    | int y => exact let ⟨t, q⟩ := q; q ▸ .mk' e (fun q => beq_iff_eq.mpr (Value.int.inj q).1) (.int_int _ _ _ _) (.int_int _ _ _ _) fun _ => .int_int _ _ _ _
    | str y => exact let ⟨t, q⟩ := q; q ▸ .mk' e (fun q => nomatch q) (.int_str _ _ _ _) (.int_str _ _ _ _) fun _ => .int_str _ _ _ _
    | _ => exact nomatch e
  | str x =>
    obtain ⟨t, rfl⟩ := p
    cases b with
    | none => exact (q : w = .none) ▸ .mk' e (fun q => nomatch q) (.str_none _ _) (.str_none _ _) fun _ => .str_none _ _
    | int y => exact let ⟨t, q⟩ := q; q ▸ .mk' e (fun q => nomatch q) (.str_int _ _ _ _) (.str_int _ _ _ _) fun _ => .str_int _ _ _ _
    | str y => exact let ⟨t, q⟩ := q; q ▸ .mk' e (fun q => beq_iff_eq.mpr (Value.str.inj q).1) (.str_str _ _ _ _) (.str_str _ _ _ _) fun _ => .str_str _ _ _ _
    | _ => exact nomatch e
  | bool x =>
    have p : v = .bool x := p
    subst p
    cases b with
    | none => exact (q : w = .none) ▸ .mk' e (fun q => nomatch q) (.bool_none _) (.bool_none _) fun _ => .bool_none _
    | bool y => exact (q : w = .bool y) ▸ .mk' e (fun q => beq_iff_eq.mpr (Value.bool.inj q)) (.bool_bool _ _) (.bool_bool _ _) fun _ => .bool_bool _ _
    | _ => exact nomatch e
  | bytes x =>
    obtain ⟨t, rfl⟩ := p
    cases b with
    | none => exact (q : w = .none) ▸ .mk' e (fun q => nomatch q) (eq_bytes_none _ _) (rc_bytes_none _ _) fun h => nomatch h
    | _ => exact nomatch e
  | _ => exact nomatch e
noncomputable def EqTs (hb : Heap) (σ : Sg) (H : PH) (s : Shared) (n : Nat) (A : Around) : Prop :=
  (∀ a b r v w, eqP H n a b = some r → RV hb s.heap σ H.next v a → RV hb s.heap σ H.next w b → EqT A s v w a r) ∧
  (∀ l m r vs ws, eqAllP H n l m = some r → RVs hb s.heap σ H.next vs l → RVs hb s.heap σ H.next ws m → EqL A s vs ws r)
theorem eq_at (I : Inv hb σ H s.heap) : ∀ n (A : Around), A.units + n < cLine → EqTs hb σ H s n A := by
  intro n
  induction n with
  | zero => exact fun A hu => ⟨fun a b r v w e => (nomatch e), fun l m r vs ws e => (nomatch e)⟩
  | succ n ih =>
    intro A hu
    have hu1 : A.in1.units + n < cLine := by show A.units + 1 + n < cLine; omega
    have hu2 : A.units < cLine := by omega
    have hu3 : A.units + n < cLine := by omega
    refine ⟨fun a b r v w e p q => ?_, fun l m r vs ws e p q => ?_⟩
    · have p := RV.inv p
      have q := RV.inv q
      unfold eqP at e
      cases a with
      | tup l =>
        cases b with
        | tup m =>
          obtain ⟨a, o, vs, n1, rfl, e1, c1, d1, r1⟩ := p
          obtain ⟨b, o', ws, n2, rfl, e2, c2, d2, r2⟩ := q
          by_cases hl : l.length ≤ 1000 ∧ m.length ≤ 1000
          · obtain ⟨x, hx, rfl⟩ := Option.map_eq_some_iff.mp ((if_pos hl).symm.trans e)
            have z1 : vs.size = l.length := r1.length
            have z2 : ws.size = m.length := r2.length
            rw [← z1, ← z2]
            exact .tuples ⟨_, e1, c1, _, d1⟩ ⟨_, e2, c2, _, d2⟩ hu2 ((ih A.in1 hu1).2 _ _ _ _ _ hx r1 r2)
          · exact nomatch (if_neg hl).symm.trans e
        | _ => exact nomatch e
      | obj i =>
        cases b with
        | obj j =>
          obtain ⟨rfl, hi⟩ := p
          obtain ⟨rfl, hj⟩ := q
          dsimp only at e
          split at e
          · exact nomatch e
          rename_i hij
          split at e
          · rename_i l g1
            split at e
            · rename_i m g2
              obtain ⟨_, vs, n1, o1, _, r1⟩ := I.list g1
              obtain ⟨_, ws, n2, o2, _, r2⟩ := I.list g2
              have hab := (I.inj _ _ hi hj hij).1
              have z1 : vs.toArray.size = l.length := r1.length
              have z2 : ws.toArray.size = m.length := r2.length
              split at e
              · rename_i hlen
                exact .lists hab ⟨_, o1, rfl, _, rfl⟩ ⟨_, o2, rfl, _, rfl⟩ (z1.trans (hlen.trans z2.symm)) hu2 ((ih A.in1 hu1).2 _ _ _ _ _ e r1 r2)
              · rename_i hlen
                exact Option.some.inj e ▸ .lens hab ⟨_, o1, rfl, _, rfl⟩ ⟨_, o2, rfl, _, rfl⟩ (bne_iff_ne.mpr (z1 ▸ z2 ▸ hlen)) hu2
            · exact nomatch e
          · exact nomatch e
        | _ => exact nomatch e
      | _ => exact atom_at e p q
    · unfold eqAllP at e
      cases l with
      | nil => exact Option.some.inj e ▸ (RVs.inv p : vs = []) ▸ .nil (Nat.zero_min _)
      | cons a l =>
        cases m with
        | nil => exact Option.some.inj e ▸ (RVs.inv q : ws = []) ▸ .nil (Nat.min_zero _)
        | cons b m =>
          obtain ⟨v, vs, rfl, p1, p2⟩ := RVs.inv p
          obtain ⟨w, ws, rfl, q1, q2⟩ := RVs.inv q
          dsimp only at e
          split at e
          · rename_i x hx
            obtain ⟨y, hy, rfl⟩ := Option.map_eq_some_iff.mp e
            exact .cons ((ih A hu3).1 _ _ _ _ _ hx p1 q1) ((ih A hu3).2 _ _ _ _ _ hy p2 q2)
          · exact nomatch e
end
end Mine
namespace Mine
open PySem PySem.W PySem.Calls PyProof.Rows PySem.Spec PySem.SeqAt
section
variable {hb : Heap} {σ : Sg} {H : PH} {s : Shared} {A : Around}
theorem any_key (I : Inv hb σ H s.heap) (hu : A.units + 40 < cLine) {x : PV} {w : Value} (q : RV hb s.heap σ H.next w x) :
    ∀ (l : List PV) (vs : List Value) (r : Bool), anyIn H x l = some r → RVs hb s.heap σ H.next vs l → ∃ bs : List Bool, bs.length = vs.length ∧ (∀ (j : Nat) y b, vs[j]? = some y → bs[j]? = some b → EqAt A s y w b) ∧ r = bs.any id := by
  intro l
  induction l with
  | nil => exact fun vs r e p => ⟨[], (RVs.inv p : vs = []) ▸ rfl, fun j y b h1 h2 => (nomatch h2), (Option.some.inj e).symm⟩
  | cons y l ih =>
    intro vs r e p
    obtain ⟨v, vs, rfl, p1, p2⟩ := RVs.inv p
    unfold anyIn at e
    split at e
    · rename_i a ha
      obtain ⟨b, hb', rfl⟩ := Option.map_eq_some_iff.mp e
      obtain ⟨bs, hl, hbs, rfl⟩ := ih _ _ hb' p2
      exact ⟨a :: bs, congrArg (· + 1) hl, fun j => Nat.casesOn j (fun y b h1 h2 => Option.some.inj h1 ▸ Option.some.inj h2 ▸ ((eq_at I 40 A hu).1 _ _ _ _ _ ha p1 q).eq) fun j => hbs j, rfl⟩
    · exact nomatch e
theorem any_at (I : Inv hb σ H s.heap) (hu : A.units + 40 < cLine) {x : PV} {w : Value} (q : RV hb s.heap σ H.next w x) {l : List PV} {vs : Array Value} {r : Bool} (e : anyIn H x l = some r) (p : RVs hb s.heap σ H.next vs.toList l) :
    ∃ e : Value → Bool, (∀ y, y ∈ vs → EqAt A s y w (e y)) ∧ vs.any e = r := by
  obtain ⟨bs, hl, hbs, rfl⟩ := any_key I hu q l _ r e p
  classical
  refine ⟨fun y => decide (∃ j : Nat, vs.toList[j]? = some y ∧ bs[j]? = some true), fun y hy => ?_, ?_⟩
  · obtain ⟨j, hj⟩ := List.mem_iff_getElem?.mp (Array.mem_toList_iff.mpr hy)
    show EqAt _ _ _ _ (decide (∃ i : Nat, vs.toList[i]? = some y ∧ bs[i]? = some true))
    by_cases z : ∃ i : Nat, vs.toList[i]? = some y ∧ bs[i]? = some true
    · rw [decide_eq_true z]
      exact let ⟨i, h1, h2⟩ := z; hbs i y true h1 h2
    · rw [decide_eq_false z]
      have hj2 : j < bs.length := hl ▸ (List.getElem?_eq_some_iff.mp hj).1
      have h2 := List.getElem?_eq_getElem hj2
      cases hb2 : bs[j] with
      | true => exact absurd ⟨j, hj, hb2 ▸ h2⟩ z
      | false => exact hbs j y false hj (hb2 ▸ h2)
  · rw [← Array.any_toList, Bool.eq_iff_iff, List.any_eq_true, List.any_eq_true]
    constructor
    · rintro ⟨y, hy, he⟩
      obtain ⟨j, h1, h2⟩ := of_decide_eq_true he
      exact ⟨true, List.mem_of_getElem? h2, rfl⟩
    · rintro ⟨b, hb2, hb3⟩
      obtain ⟨j, hj⟩ := List.mem_iff_getElem?.mp hb2
      have hj' : j < vs.toList.length := hl ▸ (List.getElem?_eq_some_iff.mp hj).1
      have hb3 : b = true := hb3
      exact ⟨vs.toList[j], List.getElem_mem hj', decide_eq_true ⟨j, List.getElem?_eq_getElem hj', hb3 ▸ hj⟩⟩
theorem RV.ne_none {v : Value} {a : PV} (p : RV.I hb s.heap σ H.next v a) (h : isSome a = true) : v ≠ .none := fun q => by
  subst q
  cases a with
  | bool b => exact nomatch (p : Value.none = .bool b)
  | int x => exact let ⟨_, p⟩ := p; nomatch p
  | str x => exact let ⟨_, p⟩ := p; nomatch p
  | bytes x => exact let ⟨_, p⟩ := p; nomatch p
  | tup x => exact let ⟨_, _, _, _, p, _⟩ := p; nomatch p
  | obj x => exact let ⟨p, _⟩ := p; nomatch p
  | rng x => exact let ⟨_, _, _, _, p, _⟩ := p; nomatch p
  | «ints» x => exact let ⟨_, _, p, _⟩ := p; nomatch p
  | _ => exact nomatch h
theorem sm_cmp {prog : Program} {w : World} {op : CmpOp} {x y : Value} {a b : PV} (hu : A.units + 100 < cLine) : Sm prog w hb A (fun σ H h => IsV hb σ H h x a ∧ IsV hb σ H h y b) (compareOp op x y) (IsV hb) (CmpC op a b) := by
  intro σ H s Φ I ⟨p, q⟩ e Q E k
  have p : RV hb s.heap σ H.next x a := p
  have q : RV hb s.heap σ H.next y b := q
  have pi := RV.inv p
  have qi := RV.inv q
  have fin : ∀ z, Φ (.bool z) H → Q (.bool z) s := fun z e => k _ _ s.heap s.toks _ _ e I .refl (.bool z)
  have hu1 : A.in1.units + 40 < cLine := by show A.units + 1 + 40 < cLine; omega
  cases e with
  | eq r h e e' => subst h; exact ((eq_at I 40 A (by omega)).1 _ _ _ _ _ e p q).rc _ _ _ _ (fin r e')
  | ne r h n e e' => subst h; exact ((eq_at I 40 A (by omega)).1 _ _ _ _ _ e p q).ne n _ _ _ _ (fin _ e')
  | is_ h hb ha e => subst h hb ha; have pi : x = .none := pi; have qi : y = .none := qi; subst pi qi; exact is_none_none (fin _ e)
  | isNo h hb ha e => subst h hb; exact (qi : y = .none) ▸ is_none_ne (RV.ne_none pi ha) (fin _ e)
  | isB u v h ha hb e => subst h ha hb; exact (pi : x = .bool u) ▸ (qi : y = .bool v) ▸ PyProof.Rows.is_bool (fin _ e)
  | isnt h hb ha e => subst h hb ha; have pi : x = .none := pi; have qi : y = .none := qi; subst pi qi; exact isnot_none_none (fin _ e)
  | isntNo h hb ha e => subst h hb; exact (qi : y = .none) ▸ isnot_none_ne (RV.ne_none pi ha) (fin _ e)
  | isntB u v h ha hb e => subst h ha hb; exact (pi : x = .bool u) ▸ (qi : y = .bool v) ▸ PyProof.Rows.isnot_bool (fin _ e)
  | lt u v h ha hb e => subst h ha hb; exact let ⟨_, p⟩ := pi; let ⟨_, q⟩ := qi; p ▸ q ▸ P.lt_int (fin _ e)
  | le u v h ha hb e => subst h ha hb; exact let ⟨_, p⟩ := pi; let ⟨_, q⟩ := qi; p ▸ q ▸ P.le_int (fin _ e)
  | leS u v h ha hb e => subst h ha hb; exact let ⟨_, p⟩ := pi; let ⟨_, q⟩ := qi; p ▸ q ▸ P.le_str (fin _ e)
  | gt u v h ha hb e => subst h ha hb; exact let ⟨_, p⟩ := pi; let ⟨_, q⟩ := qi; p ▸ q ▸ P.gt_int (fin _ e)
  | ge u v h ha hb e => subst h ha hb; exact let ⟨_, p⟩ := pi; let ⟨_, q⟩ := qi; p ▸ q ▸ P.ge_int (fin _ e)
  | inT l r h hb g e e' =>
    subst h hb
    obtain ⟨c, o, vs, n, rfl, o1, c1, d1, r1⟩ := qi
    obtain ⟨f, hf, rfl⟩ := any_at I hu1 p e r1
    exact in_tupleAt f ⟨_, o1, c1, _, d1⟩ hf (fin _ e')
  | inL j l r h hb g e e' =>
    subst h hb
    obtain ⟨_, vs, n1, o1, _, r1⟩ := I.list g
    obtain ⟨f, hf, rfl⟩ := any_at I hu1 p e (vs := vs.toArray) r1
    exact qi.1 ▸ in_listAt f ⟨_, o1, rfl, _, rfl⟩ hf (fin _ e')
  | inS u v h ha hb e => subst h ha hb; exact let ⟨_, p⟩ := pi; let ⟨_, q⟩ := qi; p ▸ q ▸ SB.contains (fin _ e)
  | ninT l r h hb g e e' =>
    subst h hb
    obtain ⟨c, o, vs, n, rfl, o1, c1, d1, r1⟩ := qi
    obtain ⟨f, hf, rfl⟩ := any_at I hu1 p e r1
    exact notIn_tupleAt f ⟨_, o1, c1, _, d1⟩ hf (fin _ e')
  | ninL j l r h hb g e e' =>
    subst h hb
    obtain ⟨_, vs, n1, o1, _, r1⟩ := I.list g
    obtain ⟨f, hf, rfl⟩ := any_at I hu1 p e (vs := vs.toArray) r1
    exact qi.1 ▸ notIn_listAt f ⟨_, o1, rfl, _, rfl⟩ hf (fin _ e')
end
end Mine
namespace Mine
open PySem PySem.W PySem.Calls PyProof.Rows PySem.Spec PySem.SeqAt
structure ClsOk (K : Frag) (C : Addr) (ci : ClsI) : Prop where
  make : makesIn K C = true
  ga : findIn K (.ref C) "__getattribute__" = some (some (.builtin "object.__getattribute__"))
  gat : findIn K (.ref C) "__getattr__" = some none
  sa : findIn K (.ref C) "__setattr__" = some (some (.builtin "object.__setattr__"))
  over : plainOver K C = true
  hasDict : (clsIn K C).any (·.hasDict) = true
  attrs : ∀ a, ci.attrs.contains a = true → findIn K (.ref C) a = some none
  meths : ∀ m f, ci.meths.lookup m = some f → (findIn K (.ref C) m = some (some (.ref f)) ∧ typeIn K (.ref f) = some (.type "function")) ∧ keepIn K (.ref f) = true
  init : findIn K (.ref C) "__init__" = some (some (.ref ci.init)) ∧ typeIn K (.ref ci.init) = some (.type "function")
  mro : ∀ D, (cls D).isSome = true → kitOne K (.ref C) (.ref D) = some (ci.mro.contains D)
  keep : keepIn K (.ref C) = true
  plainC : plainGet K C "__class__" = true
  dictC : hasDictIn K C = true
  classC : findIn K (.ref C) "__class__" = some (some (.builtin "object.__class__"))
  getC : specialIn K (.builtin "object.__class__") "__get__" = some (some (.builtin "getset_descriptor.__get__"))
  takeC : takesIn K (.builtin "object.__class__") = some true
  objC : mroIn K C (.type "object") = some true
noncomputable abbrev ClssOk (K : Frag) : Prop := ∀ C ci, cls C = some ci → ClsOk K C ci
theorem okAttr_inv {C : Addr} {a : Str} (h : okAttr C a = true) : ∃ ci, cls C = some ci ∧ ci.attrs.contains a = true := by
  unfold okAttr at h
  split at h
  · rename_i ci e; exact ⟨ci, e, h⟩
  · exact nomatch h
theorem isStr_key {x y : Str} {t : Tok} : (Value.str x t).isStr y = decide (x = y) := by
  show (x == y) = decide (x = y)
  rw [Bool.eq_iff_iff, beq_iff_eq, decide_eq_true_eq]
section
variable {hb h : Heap} {σ : Sg} {nx : Nat} {es : List DictEntry} {fs : List (Str × PV)}
theorem Flds.len (F : Flds hb h σ nx es fs) : es.length = fs.length := F.ind (M := fun es fs => es.length = fs.length) rfl fun _ _ _ _ _ _ _ _ _ r => congrArg (· + 1) r
theorem Flds.noRef (F : Flds hb h σ nx es fs) : es.any (·.refKey) = false := F.ind (M := fun es _ => es.any (·.refKey) = false) rfl fun e es x t _ _ a _ _ r => by
  rw [List.any_cons, r, DictEntry.refKey, a]; rfl
noncomputable def Found (hb h : Heap) (σ : Sg) (nx : Nat) (x : Str) (es : List DictEntry) (fs : List (Str × PV)) : Prop := match fs.lookup x with
  | some d => noRaw d = true ∧ ∃ e, es.find? (·.key.isStr x) = some e ∧ RV hb h σ nx e.val d
  | none => es.find? (·.key.isStr x) = none
theorem Flds.find {x : Str} (F : Flds hb h σ nx es fs) : Found hb h σ nx x es fs := F.ind (M := Found hb h σ nx x) rfl fun e es y t d fs a n r ih => by
  unfold Found
  rw [List.lookup_cons, List.find?_cons, a, isStr_key]
  by_cases hxy : y = x
  · rw [hxy, beq_self_eq_true, decide_eq_true rfl]
    exact ⟨n, e, rfl, r⟩
  · rw [beq_false_of_ne fun z => hxy z.symm, decide_eq_false hxy]
    exact ih
theorem Flds.look {x : Str} {n d} (F : Flds hb h σ nx es fs) (hl : fs.lookup x = some d) : noRaw d = true ∧ ∃ v, lookIn x (dictOf es n) = some (some v) ∧ RV hb h σ nx v d := by
  have f := F.find (x := x)
  unfold Found at f
  rw [hl] at f
  obtain ⟨nr, e, g, r⟩ := f
  have g' : es.toArray.toList.find? (·.key.isStr x) = some e := g
  exact ⟨nr, e.val, by unfold lookIn; dsimp only; rw [g'], r⟩
theorem Flds.lookN {x : Str} {n} (F : Flds hb h σ nx es fs) (hl : fs.lookup x = none) : lookIn x (dictOf es n) = some none := by
  have f := F.find (x := x)
  unfold Found at f
  rw [hl] at f
  have g' : es.toArray.toList.find? (·.key.isStr x) = none := f
  have r' : es.toArray.toList.any (·.refKey) = false := F.noRef
  unfold lookIn
  dsimp only
  rw [g', r']
  rfl
noncomputable def putE (x : Str) (hsh : Int) (tk : Tok) (v : Value) : List DictEntry → List DictEntry
  | [] => [⟨hsh, .str x tk, v⟩]
  | e :: r => if e.key.isStr x then { e with val := v } :: r else e :: putE x hsh tk v r
theorem putE_eq (x : Str) (hsh : Int) (tk : Tok) (v : Value) (n : Nat) (es : List DictEntry) : ∃ n', Obj.putName x hsh (.str x tk) v (dictOf es n) = dictOf (putE x hsh tk v es) n' := by
  have aux : (match es.findIdx? (·.key.isStr x) with | some i => es.modify i fun e => { e with val := v } | none => es ++ [⟨hsh, .str x tk, v⟩]) = putE x hsh tk v es := by
    induction es with
    | nil => rfl
    | cons e es ih =>
      rw [List.findIdx?_cons, putE]
      cases he : e.key.isStr x with
      | true => rfl
      | false =>
        rw [if_neg (by decide), if_neg (by decide), ← ih]
        cases es.findIdx? (·.key.isStr x) <;> rfl
  rw [Obj.putName_eq]
  unfold Obj.putNameByArray
  dsimp only
  rw [← aux, List.findIdx?_toArray]
  cases es.findIdx? (·.key.isStr x) with
  | none => exact ⟨n + 1, by rw [List.push_toArray]⟩
  | some i => exact ⟨n, by dsimp only; rw [List.modify_toArray]⟩
theorem putE_len {x hsh tk v} : ∀ es, (putE x hsh tk v es).length ≤ es.length + 1
  | [] => Nat.le_refl _
  | e :: es => by
    unfold putE
    split
    · exact Nat.le_succ _
    · exact Nat.succ_le_succ (putE_len es)
theorem Flds.put {x hsh tk v d} (r : RV hb h σ nx v d) (nr : noRaw d = true) (F : Flds hb h σ nx es fs) : Flds hb h σ nx (putE x hsh tk v es) (putF x d fs) :=
  (F.ind (M := fun es fs => Flds hb h σ nx es fs ∧ Flds hb h σ nx (putE x hsh tk v es) (putF x d fs)) ⟨trivial, Flds.cons rfl nr r trivial⟩ fun e es y t u fs a n b ih => ⟨Flds.cons a n b ih.1, by
    unfold putE putF
    rw [a, isStr_key]
    by_cases hxy : y = x
    · rw [decide_eq_true hxy, if_pos rfl, if_pos hxy]
      exact Flds.cons rfl nr r ih.1
    · rw [decide_eq_false hxy, if_neg (by decide), if_neg hxy]
      exact Flds.cons a n b ih.2⟩).2
end
section
variable {prog : Program} {w : World} {hb : Heap} {A : Around} {K : Frag}
theorem handed_RV {hb h σ nx v d} (r : RV hb h σ nx v d) (n : noRaw d = true) : handedIn v = true :=
  RV.casesOn (motive_1 := fun v d _ => noRaw d = true → handedIn v = true) r (fun _ => rfl) (fun _ _ => rfl) (fun _ _ _ => rfl) (fun _ _ _ => rfl) (fun _ _ _ => rfl) (fun _ _ _ _ _ => rfl) (fun _ _ => rfl) (fun _ _ => rfl) (fun _ _ _ => rfl) (fun _ q => nomatch q) n
theorem instAt {h : Heap} {x C dx : Addr} {es n} (a : h.get? x = some (instObj C dx)) (b : h.get? dx = some (dictOf es n)) : InstAt h x (instObj C dx) C (some (dictOf es n)) := ⟨a, rfl, rfl, b⟩
theorem findObj_val {C : Addr} {ci : ClsI} (O : ClsOk K C ci) {a : Str} (ha : ci.attrs.contains a = true) {od : Obj} {v : Value} (hl : lookIn a od = some (some v)) : findObj K C (some od) a = some (.value v) := by
  obtain ⟨cd, hc, hd⟩ := any_some O.hasDict
  unfold findObj
  rw [hc, O.attrs a ha]
  dsimp only [Option.bind_some, PySem.W.ownOf]
  rw [hd, if_pos rfl, hl]
  rfl
theorem sm_attr (hK : K.In hb) (hT : ClssOk K) {x : Value} {a : PV} {name : Str} {ex : Bool} : Sm prog w hb A (fun σ H h => IsV hb σ H h x a) (getAttr x name ex) (IsV hb) (AttrC a name) := by
  intro σ H s Φ I p ⟨i, C, fs, d, ho, g, ok, hl, e⟩ Q E k
  subst ho
  obtain ⟨ci, hci, hat⟩ := okAttr_inv ok
  obtain ⟨_, es, n, o1, o2, f⟩ := I.inst g
  obtain ⟨nr, v, hl, rv⟩ := f.look (n := n) hl
  have O := hT _ _ hci
  exact (RV.inv p).1 ▸ get_value (hK.keeps I.keep) (instAt o1 o2) O.ga (findObj_val O hat hl) (handed_RV rv nr) (k _ _ s.heap _ _ _ e I .refl rv)
theorem taker_none {C : Addr} {name : Str} (h : findIn K (.ref C) name = some none) : takerIn K C name = some none := by
  unfold takerIn; rw [h]; rfl
theorem store_flds {C x dx : Addr} {s : Shared} {name : Str} {tk : Tok} {v : Value} {es : List DictEntry} {n : Nat} {R : Result → Shared → Prop} (X : K.In s.heap)
    (hx : s.heap.get? x = some (instObj C dx)) (D : s.heap.get? dx = some (dictOf es n)) (hp : plainOver K C = true) (ht : takerIn K C name = some none) (hh : (clsIn K C).any (·.hasDict) = true)
    (hr : es.any (·.refKey) = false) (hz : es.length ≤ 1000)
    (h : ∀ h' n' tk' hs, (∀ b, b ≠ dx → h'.get? b = s.heap.get? b) → h'.get? dx = some (dictOf (putE name hs tk' v es) n') → R (.ok (.ret .none)) { s with heap := h', toks := s.toks + 1 }) :
    codeAny (model prog w) A (.call (.builtin "object.__setattr__") ⟨[.ref x, .str name tk, v], []⟩) R s := by
  refine osa_open X (instAt hx D) hp ht fun b => ?_
  obtain ⟨cd, hc, hd'⟩ := any_some hh
  obtain ⟨n', en⟩ := putE_eq name (PyData.keyHash w.params name) s.toks v n es
  refine wpAny_bind (wpAny_pure (wpAny_bind (wpAny_bind (wpAny_loadPart hx (wpAny_bind ((looks_clsIn X hc).here ?_))))))
  rw [hd']
  refine wpAny_pure (a := some dx) (wpAny_bind (wpAny_pure (wpAny_bind ?_)))
  unfold nsSet
  refine wpAny_bind (wpAny_bind (wpAny_askSetting (wpAny_pure (wpAny_bind (wpAny_mkText (wpAny_bind (wpAny_loadPart D ?_)))))))
  have c : (!es.toArray.any (·.key.isStr name) && es.toArray.any (·.refKey)) = false := by
    rw [← Array.any_toList, ← Array.any_toList]
    rw [hr, Bool.and_false]
  dsimp only
  rw [aRefKeyMayBeTheName_at, c]
  have D' : (s.heap.update dx (Obj.putName name (PyData.keyHash w.params name) (.str name s.toks) v)).get? dx = some (dictOf (putE name (PyData.keyHash w.params name) s.toks v es) n') := by
    rw [← en]
    exact Heap.get?_update_self _ D (by rw [en]; rfl)
  refine wpAny_updatePart D ?_
  refine wpAny_bind (wpAny_lookBehind D' (pastItsLine_dict (by rw [List.size_toArray, sizeLine_eq]; have := putE_len (x := name) (hsh := PyData.keyHash w.params name) (tk := s.toks) (v := v) es; omega)) ?_)
  exact wpAny_pure (h _ _ _ _ (fun b hb => Heap.get?_update_ne _ _ _ _ hb) D')
theorem sm_setAttr (hK : K.In hb) (hT : ClssOk K) {x v : Value} {a d : PV} {name : Str} :
    Sm prog w hb A (fun σ H h => IsV hb σ H h x a ∧ IsV hb σ H h v d) (setAttr x name v) IsU (SetAttrC a name d) := by
  intro σ H s Φ I ⟨p, pv⟩ ⟨i, C, fs, ho, g, ok, nr, e⟩ Q E k
  subst ho
  have ok := Bool.and_eq_true_iff.mp ok
  have hlen : fs.length < 100 := of_decide_eq_true ok.2
  obtain ⟨ci, hci, hat⟩ := okAttr_inv ok.1
  obtain ⟨_, es, n, o1, o2, f⟩ := I.inst g
  have O := hT _ _ hci
  rw [(RV.inv p).1]
  refine set_plain (hK.keeps I.keep) (instAt o1 o2) O.sa (store_flds (s := { s with toks := s.toks + 1 }) (hK.keeps I.keep) o1 o2 O.over (taker_none (O.attrs _ hat)) O.hasDict f.noRef (by have := f.len; omega) fun h' n' tk' hs e1 e2 => ?_)
  obtain ⟨J1, J2⟩ := I.setFlds g e1 e2 (f.put pv nr)
  exact k () _ h' _ _ _ e J1 J2 trivial
end
end Mine
namespace Mine
open PySem PySem.W PySem.Calls PyProof.Rows PySem.Spec PySem.SeqAt
section
variable {prog : Program} {w : World} {hb : Heap} {A : Around} {K : Frag}
theorem toArr {l : List Value} {k : Nat} : l.toArray[k]? = l[k]? := by simp
theorem listOf_isList {h : Heap} {a : Addr} {l : Array Value} {n : Nat} (e : h.get? a = some (listOf l n)) : h.IsList a l := ⟨_, e, rfl, n, rfl⟩
theorem sm_getItem {o i : Value} {a b : PV} : Sm prog w hb A (fun σ H h => IsV hb σ H h o a ∧ IsV hb σ H h i b) (getItem o i) (IsV hb) (SubsC a b) := by
  intro σ H s Φ I ⟨pa, pb⟩ e Q E k
  have pa := RV.inv pa
  have pb := RV.inv pb
  cases e with
  | list j l x v ho hi b g e q =>
    subst ho hi
    obtain ⟨t, rfl⟩ := pb
    obtain ⟨_, vs, n, o1, _, f⟩ := I.list g
    obtain ⟨v', hv, rv⟩ := f.get e
    exact pa.1 ▸ wpAny_getItem_list (listOf_isList o1) b.1 (by omega) (toArr.trans hv) (k _ _ s.heap _ _ _ q I .refl rv)
  | tup l x v ho hi b n e q =>
    subst ho hi
    obtain ⟨t, rfl⟩ := pb
    obtain ⟨c, o, vs, n1, rfl, o1, c1, d1, f⟩ := pa
    obtain ⟨v', hv, rv⟩ := f.get e
    have hsz : vs.size = l.length := f.length
    have hlt : x.toNat < vs.size := (List.getElem?_eq_some_iff.mp hv).1
    exact PyProof.Rows.getItem_tuple ⟨_, o1, c1, _, d1⟩ (by omega) (by omega) (j := x.toNat) (seqIndex_of b.1 (by omega)) ((Array.getElem?_toList ..).symm.trans hv) (k _ _ s.heap _ _ _ q I .refl rv)
  | «ints» l x v ho hi b e q =>
    subst ho hi
    obtain ⟨t, rfl⟩ := pb
    obtain ⟨c, vs, rfl, hl, hz⟩ := pa
    obtain ⟨tz, hv⟩ := hz.get _ _ e
    exact wpAny_getItem_list (hl.at fun o q => I.keep _ _ q) b.1 (by omega) (toArr.trans hv) (k _ _ s.heap _ _ _ q I .refl (.int v tz))
theorem cut_bounds (a n : Nat) (ha : a ≤ n) : Builtin.Slice.sliceAdjust none (some (a : Int)) 1 (n : Int) = (0, (a : Int)) := by
  unfold Builtin.Slice.sliceAdjust
  have h1 : ¬ ((1 : Int) < 0) := by omega
  have h2 : ¬ ((a : Int) < 0) := by omega
  simp only [h1, h2, if_false]
  congr 1
  omega
theorem cut_places (a : Nat) : Builtin.Slice.slicePlaces 0 (a : Int) 1 = a := by
  unfold Builtin.Slice.slicePlaces
  have h1 : (1 : Int) > 0 := by omega
  simp only [h1, if_true, Int.ediv_one]
  split <;> omega
theorem cut_apply {E : Value → Shared → Prop} {s : Shared} {sl : Addr} {a n : Nat} {u : Tok} {Q : Int × Int × Nat → Shared → Prop} (hs : s.heap.IsSliceOf sl .none (.int a u) .none) (ha : a ≤ n) (h : Q (0, 1, a) s) :
    wpAny (model prog w) A (Builtin.Slice.sliceApplied (.ref sl) (pure (n : Int))) Q E s := by
  obtain ⟨os, hos, hcs, hds⟩ := id hs
  unfold Builtin.Slice.sliceApplied Builtin.Slice.sliceFields
  refine wpAny_bind (wpAny_bind (wpAny_field hos hds (x := .none) rfl (wpAny_bind (wpAny_field hos hds (x := .int a u) rfl (wpAny_bind (wpAny_field hos hds (x := .none) rfl (wpAny_pure ?_)))))))
  refine wpAny_bind (slicePart_none ?_)
  show wpAny _ _ (if ((1 : Int) == 0) = true then _ else _) _ _ s
  rw [if_neg (by decide)]
  refine wpAny_bind (slicePart_none (wpAny_bind (slicePart_int (wpAny_bind (wpAny_pure ?_)))))
  show wpAny _ _ (match Builtin.Slice.sliceAdjust none (some (a : Int)) 1 (n : Int) with | (lo, hi) => pure (lo, (1 : Int), Builtin.Slice.slicePlaces lo hi 1)) _ _ s
  rw [cut_bounds a n ha]
  show wpAny _ _ (pure ((0 : Int), (1 : Int), Builtin.Slice.slicePlaces 0 (a : Int) 1)) _ _ s
  rw [cut_places a]
  exact wpAny_pure h
theorem cut_pick (xs : Array Value) (a : Nat) (ha : a ≤ xs.size) : ((List.range a).filterMap fun (k : Nat) => xs[((0 : Int) + (k : Int) * 1).toNat]?).toArray = (xs.toList.take a).toArray := by
  have e : (fun (k : Nat) => xs[((0 : Int) + (k : Int) * 1).toNat]?) = fun k => xs[0 + k]? := by
    funext k
    have : ((0 : Int) + (k : Int) * 1).toNat = 0 + k := by omega
    rw [this]
  rw [e]
  have := pick_run xs 0 a
  rw [List.filterMap_map] at this
  have e2 : ((fun x => xs[x]?) ∘ fun x => 0 + x) = fun k => xs[0 + k]? := rfl
  rw [e2] at this
  rw [this, List.drop_zero]
theorem cut_tuple {E : Value → Shared → Prop} {s : Shared} {t sl : Addr} {items : Array Value} {a : Nat} {u : Tok} {Q : Value → Shared → Prop} (ht : IsTup s.heap t items) (hs : s.heap.IsSliceOf sl .none (.int a u) .none) (ha : a < items.size)
    (h : Q (.ref s.heap.objs.size) { s with heap := s.heap.push { cls := .type "tuple", data := .seq (items.toList.take a).toArray } })
    (hsz : items.size ≤ sizeLine) : wpAny (model prog w) A (getItem (.ref t) (.ref sl)) Q E s := by
  have hcut : sizeOk (.seq (items.toList.take a).toArray) := by
    show (items.toList.take a).toArray.size ≤ sizeLine
    rw [List.size_toArray, List.length_take, Array.length_toList]
    omega
  obtain ⟨os, hos, hcs, hds⟩ := id hs
  have hTs : s.TypeIs (.ref sl) "slice" := ⟨os, hos, hcs⟩
  unfold getItem
  try with_reducible refine wpAny_holding ?_
  first | refine wpAny_bind (wpAny_pure ?_) | skip
  refine wpAny_bind (wpAny_sequenceKey ht.typeIs (by decide) ?_)
  refine wpAny_bind (wpAny_callSpecial?_slot (name := Str.ofString "__getitem__") ht.typeIs slot_tuple_getitem
    (wpAny_call_entry slot_tuple_getitem ht.typeIs entry_tuple_getitem ?_ (args_tuple_getitem _ _)))
  show wpAny _ _ (Builtin.Tuple.tupleItemsOf (.ref t) >>= _) _ _ s
  refine wpAny_bind (tupleItemsOf_ ht ?_)
  refine wpAny_bind (wpAny_typeOf hTs ?_)
  rw [if_pos (by decide)]
  refine wpAny_bind (cut_apply hs (Nat.le_of_lt ha) ?_)
  have hno : ¬ (((0 : Int) == 0 && (1 : Int) == 1 && a == items.size) = true) := by
    have : (a == items.size) = false := by rw [beq_eq_false_iff_ne]; omega
    rw [this]; simp
  show wpAny _ _ (if ((0 : Int) == 0 && (1 : Int) == 1 && a == items.size) = true then _ else _) _ _ s
  rw [if_neg hno, cut_pick items a (Nat.le_of_lt ha)]
  first
    | exact wpAny_bind (m := Builtin.Tuple.tupleExact _) (wpAny_newObj_type (wpAny_pure ⟨_, rfl, wpAny_pure h⟩) hcut)
    | exact wpAny_bind (m := Builtin.Tuple.tupleExact _) (wpAny_newObj_type (wpAny_bind (wpAny_pure (wpAny_pure ⟨_, rfl, wpAny_pure h⟩))) hcut)
    | exact wpAny_bind (wpAny_bind (m := Builtin.Tuple.tupleExact _) (wpAny_newObj_type (wpAny_pure (wpAny_pure ⟨_, rfl, wpAny_pure h⟩)) hcut))
    | exact wpAny_bind (wpAny_bind (m := Builtin.Tuple.tupleExact _) (wpAny_newObj_type (wpAny_pure ⟨_, rfl, wpAny_pure h⟩) hcut))
theorem sm_slice {o u : Value} {a b : PV} {sl : Addr} : Sm prog w hb A (fun σ H h => (IsV hb σ H h o a ∧ IsV hb σ H h u b) ∧ h.IsSliceOf sl .none u .none) (getItem o (.ref sl)) (IsV hb) (SliceC a b) := by
  intro σ H s Φ I ⟨⟨pa, pb⟩, ps⟩ e Q E k
  have pa := RV.inv pa
  have pb := RV.inv pb
  cases e with
  | list j l c ho hu g b q =>
    subst ho hu
    obtain ⟨t, rfl⟩ := pb
    obtain ⟨_, vs, n, o1, _, f⟩ := I.list g
    have hlen := f.length
    have hl : c ≤ vs.toArray.size ∧ vs.toArray.size ≤ 999 := by rw [List.size_toArray, hlen]; exact b
    obtain ⟨J1, J2, J3⟩ := I.addList (f.take (i := c))
    refine pa.1 ▸ wpAny_getItem_list_slice (listOf_isList o1) ps .none (.int _ _) .none (fun z => nomatch z) ?_ (size_le (by omega))
    rw [slicePick_upto _ _ hl.1]
    exact k _ _ _ _ _ _ q J1 J2 J3
  | tup l c ho hu b q =>
    subst ho hu
    obtain ⟨t, rfl⟩ := pb
    obtain ⟨c', o, vs, n1, rfl, o1, c1, d1, f⟩ := pa
    have hsz : vs.size = l.length := f.length
    obtain ⟨J1, J2, J3⟩ := I.addTup (f.take (i := c))
    exact cut_tuple ⟨_, o1, c1, _, d1⟩ ps (by omega) (k _ _ _ _ _ _ q J1 J2 J3) (size_le (by omega))
theorem mapSeq_listOf (f : Array Value → Array Value) (its : Array Value) (n : Nat) : ∃ n', Obj.mapSeq f (listOf its n) = listOf (f its) n' := ⟨_, rfl⟩
theorem setItem_at {E : Value → Shared → Prop} {s : Shared} {l : Addr} {vs : List Value} {n : Nat} {k : Int} {t : Tok} {v : Value} {Q : Unit → Shared → Prop} (ho : s.heap.get? l = some (listOf vs.toArray n))
    (h0 : 0 ≤ k) (hfit : k < 2 ^ 63) (hn : k.toNat < vs.length)
    (hQ : ∀ h' n', h'.get? l = some (listOf (vs.set k.toNat v).toArray n') → (∀ b, b ≠ l → h'.get? b = s.heap.get? b) → Q () { s with heap := h' }) :
    wpAny (model prog w) A (setItem (.ref l) (.int k t) v) Q E s := by
  have hl : s.heap.IsList l vs.toArray := listOf_isList ho
  unfold setItem
  try with_reducible refine wpAny_holding ?_
  first | refine wpAny_bind (wpAny_pure ?_) | skip
  refine wpAny_bind (wpAny_sequenceKey hl.typeIs (by decide) ?_)
  refine wpAny_bind (wpAny_callSpecial?_slot (name := Str.ofString "__setitem__") hl.typeIs slot_list_setitem
    (wpAny_call_entry slot_list_setitem hl.typeIs entry_list_setitem ?_ (args_list_setitem _ _ _)))
  show wpAny _ _ (Builtin.List.listSubscript? (.int k t) >>= _) _ _ s
  refine wpAny_bind (wpAny_listSubscript_int (fitsIndex_of h0 hfit) ?_)
  obtain ⟨j, rfl⟩ := Int.eq_ofNat_of_zero_le h0
  have hn : j < vs.length := hn
  have hx' : vs.toArray[j]? = some vs[j] := by rw [toArr]; exact List.getElem?_eq_getElem hn
  show wpAny _ _ ((seqItemAt l j >>= fun r => pure (r.map (j, ·))) >>= _) _ _ s
  refine wpAny_bind (wpAny_bind (wpAny_seqItemAt ho rfl (wpAny_pure ?_)))
  rw [hx']
  show wpAny _ _ (setSeqItemAt l j v >>= _) _ _ s
  obtain ⟨n', en⟩ := mapSeq_listOf (·.setIfInBounds j v) vs.toArray n
  have e1 : (s.heap.update l (Obj.mapSeq (·.setIfInBounds j v))).get? l = some (listOf (vs.set j v).toArray n') := by
    rw [Heap.get?_update_self _ ho (by rw [en]; rfl), en]
    simp
  have fin := hQ _ n' e1 fun b hb => Heap.get?_update_ne _ _ _ _ hb
  refine wpAny_bind (wpAny_setSeqItemAt ho rfl ?_)
  first
    | exact wpAny_bind (wpAny_pure (wpAny_pure ⟨.none, rfl, wpAny_pure fin⟩))
    | exact wpAny_pure ⟨.none, rfl, wpAny_pure fin⟩
theorem sm_setItem {o i v : Value} {a b c : PV} : Sm prog w hb A (fun σ H h => (IsV hb σ H h o a ∧ IsV hb σ H h i b) ∧ IsV hb σ H h v c) (setItem o i v) IsU (SetItemC a b c) := by
  intro σ H s Φ I ⟨⟨pa, pb⟩, pc⟩ ⟨j, l, x, ho, hi, b, g, n, q⟩ Q E k
  subst ho hi
  obtain ⟨t, rfl⟩ := RV.inv pb
  obtain ⟨_, vs, n1, o1, _, f⟩ := I.list g
  have hlen := f.length
  refine (RV.inv pa).1 ▸ setItem_at o1 (Int.natCast_nonneg _) (by omega) (by omega) fun h' n' e1 e2 => ?_
  obtain ⟨J1, J2⟩ := I.setList g e2 e1 (f.set pc)
  exact k () _ _ _ _ _ q J1 J2 trivial
end
end Mine
namespace Mine
open PySem PySem.W PySem.Calls PyProof.Rows PySem.Spec PySem.SeqAt
structure GlobOk (hb : Heap) : Prop where
  ns : ∃ mg mb, hb.Ns mainGlobals mg ∧ hb.Ns builtinsNs mb ∧ ∀ x d, glob x = some d → ∃ v, (mg x = some v ∨ (mg x = none ∧ mb x = some v)) ∧ ∀ h σ nx, (∀ b o, hb.get? b = some o → h.get? b = some o) → RV hb h σ nx v d
section
variable {prog : Program} {w : World} {hb : Heap} {A : Around} {K : Frag} {sc : Scope} {env : Env} {ℓ : Loc}
theorem nameP_inv {x : Str} {d : PV} (e : nameP sc ℓ x = some d) : (x == ("__debug__" : Str)) = false ∧ (x == ("__classdict__" : Str)) = false ∧ ∃ k, sc.names.lookup x = some k ∧ ((k = .globalImplicit ∧ glob x = some d) ∨ ((k = .local ∨ k = .cell ∨ k = .free) ∧ ℓ x = some d)) := by
  unfold nameP at e
  split at e
  · exact nomatch e
  rename_i hx
  have hx := Bool.or_eq_false_iff.mp (Bool.eq_false_iff.mpr hx)
  refine ⟨hx.1, hx.2, ?_⟩
  cases hk : sc.names.lookup x with
  | none => rw [hk] at e; exact nomatch e
  | some k =>
    rw [hk] at e
    cases k with
    | globalImplicit => exact ⟨_, rfl, .inl ⟨rfl, e⟩⟩
    | globalExplicit => exact nomatch e
    | «local» => exact ⟨_, rfl, .inr ⟨.inl rfl, e⟩⟩
    | cell => exact ⟨_, rfl, .inr ⟨.inr (.inl rfl), e⟩⟩
    | free => exact ⟨_, rfl, .inr ⟨.inr (.inr rfl), e⟩⟩
theorem sm_loadName (G : GlobOk hb) {x : Str} {d : PV} (e : nameP sc ℓ x = some d) : Sm prog w hb A (Frm hb sc env ℓ) (loadName env x) (IsV hb) (pureC d) := by
  intro σ H s Φ I F q Q E k
  obtain ⟨_, hcd, kk, hk, ⟨rfl, h1⟩ | ⟨hkk, h1⟩⟩ := nameP_inv e
  · obtain ⟨mg, mb, g1, g2, g3⟩ := G.ns
    obtain ⟨v, hv, rv⟩ := g3 x d h1
    have hq : env.kindOf x = some .globalImplicit := (F.sc.at_ x _ hk).elim id fun h => nomatch h.1
    have fin := k v σ s.heap s.toks _ _ q I .refl (rv _ _ _ I.keep)
    unfold loadName
    simp only [Env.blockKind, F.kind, hq, ScopeKind.isAnnotationScope, Bool.false_and, Bool.false_eq_true, if_false]
    rcases hv with hv | ⟨hv, hv2⟩
    · exact loadGlobal_global (mg := mg) (by rw [F.glob]; exact g1.keeps I.keep) hv fin
    · exact loadGlobal_builtin (mg := mg) (mb := mb) (by rw [F.glob]; exact g1.keeps I.keep) hv (by rw [F.bi]; exact g2.keeps I.keep) hv2 fin
  · have cellRoad : (env.kindOf x = some .cell ∨ env.kindOf x = some .free) → wpAny (model prog w) A (loadName env x) Q E s := fun hq => by
      obtain ⟨c, cv, hc1, hc2, hc3⟩ := F.cell x d h1 hq
      have fin := k _ _ s.heap s.toks _ _ q I .refl hc3
      exact hq.elim (fun hq => wpAny_loadName_cell F.kind hq hc1 hc2 fin) fun hq => wpAny_loadName_free F.kind hq hc1 hc2 fin hcd
    rcases F.sc.at_ x kk hk with hq | ⟨rfl, hq⟩
    · rcases hkk with rfl | rfl | rfl
      · obtain ⟨m, hn, hm⟩ := F.ns
        obtain ⟨cv, hc1, hc2⟩ := hm x d h1 hq
        exact wpAny_loadName_local F.kind hq hn hc1 (k _ _ s.heap _ _ _ q I .refl hc2)
      · exact cellRoad (.inl hq)
      · exact cellRoad (.inr hq)
    · exact cellRoad (.inl hq)
theorem sm_name (G : GlobOk hb) {x : Str} {p : Pos} : Sm prog w hb A (Frm hb sc env ℓ) (eval (.Name x p) env) (IsV hb) (optC (nameP sc ℓ x)) :=
  .opt fun _ e σ H s Φ I F q Q E k => wpAny_Name (sm_loadName G e σ H s Φ I F q Q E k) (nameP_inv e).1
end
end Mine
namespace Mine
open PySem PySem.W PySem.Calls PyProof.Rows PySem.Spec PySem.SeqAt
section
variable {prog : Program} {w : World} {hb : Heap} {A : Around} {K : Frag} {sc : Scope} {env : Env} {ℓ : Loc} {P : Pr} {ev : Expr → CM PV} {tr : Expr → CM Bool}
theorem Stb.frm : Stb hb (Frm hb sc env ℓ) := Frm.stb
theorem Sm.weak {α β : Type} {t : Sem α} {R : Rr α β} {m m' : CM β} (x : Sm prog w hb A P t R m) (i : ∀ Φ H, m' Φ H → m Φ H) : Sm prog w hb A P t R m' :=
  fun σ H s Φ I p e Q E k => x σ H s Φ I p (i _ _ e) Q E k
theorem Sm.bool {α β : Type} {f : Bool → Sem α} {g : Bool → CM β} {R : Rr α β} (y : ∀ c, Sm prog w hb A P (f c) R (g c)) (t t' : Bool) : Sm prog w hb A (fun σ H h => P σ H h ∧ IsB σ H h t t') (f t) R (g t') :=
  fun σ H s Φ I p e Q E k => by
    obtain ⟨p, rfl⟩ := p
    exact y t σ H s Φ I p e Q E k
theorem Sm.rel {α β : Type} {t : Sem α} {m : CM β} {R : Rr α β} {vs keep : List Value} (x : Sm prog w hb A P t R m) : Sm prog w hb A P (release vs keep >>= fun _ => t) R m :=
  fun σ H s Φ I p e Q E k => wpAny_bind (wpAny_release' (x σ H s Φ I p e Q E k))
noncomputable abbrev Evs (prog : Program) (w : World) (hb : Heap) (A : Around) (P : Pr) (env : Env) (ev : Expr → CM PV) (es : List Expr) : Prop := ∀ e ∈ es, Sm prog w hb A P (eval e env) (IsV hb) (ev e)
theorem sm_spliced {pos : Pos} (st : Stb hb P) {es : List Expr} : Evs prog w hb A P env ev es → es.all okE = true → Sm prog w hb A P (spliced (backTo pos (starEach es env))) (IsVs hb) (seqC (es.map ev)) := by
  induction es with
  | nil => exact fun _ _ => Sm.pure fun _ _ _ _ => .nil
  | cons e es ih =>
    intro He ok
    rw [List.all_cons, Bool.and_eq_true] at ok
    have hst : starEach (e :: es) env = (false, eval e env) :: starEach es env := by
      have := ok.1
      cases e <;> first | rfl | exact nomatch this
    rw [hst]
    exact fun σ H s Φ I p e' Q E k => Calls.spliced_cons (He e (.head _) σ H s _ I p e' _ E fun v σ1 h1 tk1 d H1 e1 I1 r1 q1 =>
      ih (fun x hx => He x (.tail _ hx)) ok.2 σ1 H1 { s with heap := h1, toks := tk1 } _ I1 (st _ _ _ _ _ _ I r1 I1 p) e1 _ E fun vs σ2 h2 tk2 ds H2 e2 I2 r2 q2 =>
        k _ σ2 h2 tk2 _ _ e2 I2 (r1.trans r2) (.cons (RV.up q1 r2 I1) q2))
theorem Sm.iteP {α β : Type} {t : Sem α} {R : Rr α β} {m : CM β} {c : Prop} [Decidable c] (x : c → Sm prog w hb A P t R m) : Sm prog w hb A P t R (if c then m else failC) := by
  by_cases h : c
  · rw [if_pos h]; exact x h
  · rw [if_neg h]; exact Sm.fail
theorem sm_list {p : Pos} {es : List Expr} (st : Stb hb P) (He : Evs prog w hb A P env ev es) :
    Sm prog w hb A P (eval (.List es p) env) (IsV hb) (if es.all okE then bindC (seqC (es.map ev)) allocC else failC) := by
  rw [arm_eval_List]
  exact .iteP fun ok => Sm.at ((sm_spliced st He ok).bind (fun a b => sm_newList.imp fun _ _ _ q => q.2) st)
theorem sm_tuple {p : Pos} {c : Nat} {es : List Expr} (st : Stb hb P) (He : Evs prog w hb A P env ev es) :
    Sm prog w hb A P (eval (.Tuple es c p) env) (IsV hb) (if es.all okE then bindC (seqC (es.map ev)) tupC else failC) := by
  rw [arm_eval_Tuple]
  exact .iteP fun ok => Sm.at ((sm_spliced st He ok).bind (fun a b => sm_newTuple.imp fun _ _ _ q => q.2) st)
theorem sm_boolOp {pos : Pos} {op : BoolOp} (st : Stb hb P) {es : List Expr} : Evs prog w hb A P env ev es → Sm prog w hb A P (boolOp pos op (evalEach es env)) (IsV hb) (boolC op (es.map ev)) := by
  induction es with
  | nil => exact fun _ => Sm.fail
  | cons e es ih =>
    intro He
    cases es with
    | nil => exact He e (.head _)
    | cons e2 es =>
      have ih := ih fun x hx => He x (.tail _ hx)
      refine (He e (.head _)).bind (fun v d => Sm.at ?_) st
      refine Sm.bind (((sm_truth (v := v) (d := d)).imp (P' := fun σ H h => P σ H h ∧ IsV hb σ H h v d) (fun _ _ _ q => q.2)).holding) (Sm.bool fun t => ?_) (st.and .val)
      have no := Sm.pure (prog := prog) (w := w) (hb := hb) (A := A) (P := fun σ H h => P σ H h ∧ IsV hb σ H h v d) (R := IsV hb) (a := v) (b := d) (fun _ _ _ q => q.2)
      have yes := ih.imp (P' := fun σ H h => P σ H h ∧ IsV hb σ H h v d) fun _ _ _ q => q.1
      cases op <;> cases t <;> first | exact no | exact yes
theorem sm_allTrue {op : BoolOp} (st : Stb hb P) {es : List Expr} : (∀ e ∈ es, Sm prog w hb A P (isTrue e env (eval e env)) IsB (tr e)) → Sm prog w hb A P (allTrue op es env) IsB (allTrueC op (es.map tr)) := by
  have no (c : Bool) := Sm.pure (prog := prog) (w := w) (hb := hb) (A := A) (P := P) (R := IsB) (a := c) (b := c) (fun _ _ _ q => rfl)
  induction es with
  | nil =>
    intro _
    rw [arm_allTrue_nil]
    cases op <;> exact no _
  | cons e es ih =>
    intro He
    have ih := ih fun x hx => He x (.tail _ hx)
    rw [arm_allTrue_cons]
    refine (He e (.head _)).bind (Sm.bool fun t => ?_) st
    cases op <;> cases t <;> first | exact no _ | exact ih
theorem marked_eq {op : CmpOp} {e : Expr} {t : Sem Value} (ok : okE e = true) : markedBehindIn op e t = t := by
  unfold markedBehindIn
  cases e <;> first | rfl | cases ok
theorem marked_nil : ∀ (ops : List CmpOp), markedEach ops [] [] = []
  | [] => rfl
  | [_] => rfl
  | _ :: _ :: _ => rfl
theorem markedEach_eq : ∀ (ops : List CmpOp) (es : List Expr), es.all okE = true → markedEach ops es (evalEach es env) = evalEach es env
  | [], _, _ => by cases ‹List Expr› <;> rfl
  | ops, [], _ => marked_nil ops
  | [op], [e], ok => by
    rw [arm_evalEach_cons, arm_evalEach_nil]
    show [markedBehindIn op e _] = _
    rw [marked_eq (Bool.and_eq_true_iff.mp ok).1]
  | op :: op2 :: ops, [e], ok => by
    rw [arm_evalEach_cons, arm_evalEach_nil]
    show eval e env :: markedEach (op2 :: ops) [] [] = _
    rw [marked_nil]
  | [op], e :: e2 :: es, ok => by
    rw [arm_evalEach_cons, arm_evalEach_cons]
    show eval e env :: markedEach [] (e2 :: es) (eval e2 env :: evalEach es env) = _
    rfl
  | op :: op2 :: ops, e :: e2 :: es, ok => by
    have ih := markedEach_eq (op2 :: ops) (e2 :: es) (by rw [List.all_cons, Bool.and_eq_true] at ok; exact ok.2)
    rw [arm_evalEach_cons]
    rw [arm_evalEach_cons] at ih ⊢
    show eval e env :: markedEach (op2 :: ops) (e2 :: es) (eval e2 env :: evalEach es env) = _
    rw [ih]
end
end Mine
namespace Mine
open PySem PySem.W PySem.Calls PyProof.Rows PySem.Spec PySem.SeqAt
section
variable {prog : Program} {w : World} {hb : Heap} {A : Around} {K : Frag} {sc : Scope} {env : Env} {ℓ : Loc} {P : Pr} {ev : Expr → CM PV} {tr : Expr → CM Bool}
theorem cond_f {t : Bool} {X Z : Prop} {Y : Bool → Prop} (e : cond t X (Y t)) (i : Y false → Z) : cond t X Z := by
  cases t with
  | true => exact e
  | false => exact i e
theorem truth_again {c : PV} {X : PH → Prop} {K : Bool → PH → Prop} {H : PH} (e : truthC c (fun t H => cond t (X H) (truthC c K H)) H) : truthC c (fun t H => cond t (X H) (K false H)) H := by
  cases c with
  | none => exact e
  | bool x => exact cond_f (Y := fun t => K t H) e id
  | int x => exact cond_f (Y := fun t => K t H) e id
  | str x => exact ⟨e.1, cond_f (Y := fun t => x.length ≤ 1000 ∧ K t H) e.2 And.right⟩
  | bytes x => exact ⟨e.1, cond_f (Y := fun t => x.size ≤ 1000 ∧ K t H) e.2 And.right⟩
  | _ => exact e.elim
theorem sm_compareChain {pos : Pos} (hu : A.units + 100 < cLine) (st : Stb hb P) : ∀ (ops : List CmpOp) (es : List Expr) (x : Value) (a : PV), Evs prog w hb A P env ev es →
    Sm prog w hb A (fun σ H h => P σ H h ∧ IsV hb σ H h x a) (compareChain pos x ops (evalEach es env)) (IsV hb) (chainC a ops (es.map ev)) := by
  intro ops
  induction ops with
  | nil => exact fun es x a He => Sm.fail
  | cons op ops ih =>
    intro es x a He
    cases es with
    | nil => cases ops <;> exact Sm.fail
    | cons e es =>
      have h1 := ((He e (.head _)).imp (P' := fun σ H h => P σ H h ∧ IsV hb σ H h x a) fun _ _ _ q => q.1).holding (vs := [x])
      cases ops with
      | nil =>
        cases es with
        | nil => exact Sm.bind h1 (fun y b => Sm.at (Sm.operate ((sm_cmp hu).imp fun _ _ _ q => ⟨q.1.2, q.2⟩))) (st.and .val)
        | cons e2 es => exact Sm.fail
      | cons op2 ops =>
        refine Sm.bind h1 (fun y b => Sm.at (Sm.bind (Sm.holding ((sm_cmp hu).imp fun _ _ _ q => ⟨q.1.2, q.2⟩)) (fun c c' => Sm.rel (Sm.bind (Sm.holding ((sm_truth (v := c) (d := c')).imp fun _ _ _ q => q.2)) (Sm.bool fun t => ?_) (((st.and .val).and .val).and .val))) ((st.and .val).and .val))) (st.and .val)
        cases t with
        | true => exact (ih es y b fun z hz => He z (.tail _ hz)).imp fun _ _ _ p => ⟨p.1.1.1, p.1.2⟩
        | false => exact Sm.pure fun _ _ _ p => p.2
theorem sm_testChain {pos : Pos} (hu : A.units + 100 < cLine) (st : Stb hb P) : ∀ (ops : List CmpOp) (es : List Expr) (x : Value) (a : PV), Evs prog w hb A P env ev es →
    Sm prog w hb A (fun σ H h => P σ H h ∧ IsV hb σ H h x a) (testChain pos x ops (evalEach es env)) IsB (bindC (chainC a ops (es.map ev)) truthC) := by
  intro ops
  induction ops with
  | nil => exact fun es x a He => Sm.fail
  | cons op ops ih =>
    intro es x a He
    cases es with
    | nil => cases ops <;> exact Sm.fail
    | cons e es =>
      have h1 := ((He e (.head _)).imp (P' := fun σ H h => P σ H h ∧ IsV hb σ H h x a) fun _ _ _ q => q.1).holding (vs := [x])
      cases ops with
      | nil =>
        cases es with
        | nil =>
          show Sm _ _ _ _ _ _ _ (bindC (ev e) fun b => bindC (CmpC op a b) truthC)
          exact Sm.bind h1 (fun y b => Sm.at (Sm.bind (Sm.operate ((sm_cmp hu).imp fun _ _ _ q => ⟨q.1.2, q.2⟩)) (fun c c' => Sm.holding ((sm_truth (v := c) (d := c')).imp fun _ _ _ q => q.2)) ((st.and .val).and .val))) (st.and .val)
        | cons e2 es => exact Sm.fail
      | cons op2 ops =>
        show Sm _ _ _ _ _ _ _ (bindC (ev e) fun b => bindC (CmpC op a b) fun c => fun K H => truthC c (fun t H1 => cond t (bindC (chainC b (op2 :: ops) (es.map ev)) truthC K H1) (truthC c K H1)) H)
        refine Sm.bind h1 (fun y b => Sm.at (Sm.bind (Sm.holding ((sm_cmp hu).imp fun _ _ _ q => ⟨q.1.2, q.2⟩)) (fun c c' => Sm.rel (Sm.weak (m := bindC (truthC c') fun t => condC t (bindC (chainC b (op2 :: ops) (es.map ev)) truthC) (pureC false)) (Sm.bind (Sm.holding ((sm_truth (v := c) (d := c')).imp fun _ _ _ q => q.2)) (Sm.bool fun t => ?_) (((st.and .val).and .val).and .val)) fun Φ H e => truth_again (X := fun H => bindC (chainC b (op2 :: ops) (es.map ev)) truthC Φ H) e)) ((st.and .val).and .val))) (st.and .val)
        cases t with
        | true => exact (ih es y b fun z hz => He z (.tail _ hz)).imp fun _ _ _ p => ⟨p.1.1.1, p.1.2⟩
        | false => exact Sm.pure fun _ _ _ p => rfl
end
end Mine
namespace Mine
open PySem PySem.W PySem.Calls PyProof.Rows PySem.Spec PySem.SeqAt
section
variable {prog : Program} {w : World} {hb : Heap} {A : Around} {K : Frag} {sc : Scope} {env : Env} {ℓ : Loc} {P : Pr} {ev : Expr → CM PV} {tr : Expr → CM Bool}
theorem sm_BinOp {a b : Expr} {op : Operator} {p : Pos} (st : Stb hb P) (Ha : Sm prog w hb A P (eval a env) (IsV hb) (ev a)) (Hb : Sm prog w hb A P (eval b env) (IsV hb) (ev b)) :
    Sm prog w hb A P (eval (.BinOp a op b p) env) (IsV hb) (bindC (ev a) fun x => bindC (ev b) fun y => BinC op x y) := by
  rw [arm_eval_BinOp]
  exact Ha.bind (fun x x' => Sm.bind (Sm.holding (Hb.imp fun _ _ _ q => q.1)) (fun y y' => Sm.at (Sm.operate (sm_bin.imp fun _ _ _ q => ⟨q.1.2, q.2⟩))) (st.and .val)) st
theorem sm_UnaryOp {a : Expr} {op : UnaryOp} {p : Pos} (st : Stb hb P) (Ha : Sm prog w hb A P (eval a env) (IsV hb) (ev a)) :
    Sm prog w hb A P (eval (.UnaryOp op a p) env) (IsV hb) (bindC (ev a) fun x => UnC op x) := by
  rw [arm_eval_UnaryOp]
  exact Ha.bind (fun x x' => Sm.at (Sm.holding (sm_un.imp fun _ _ _ q => q.2))) st
theorem sm_if {α β : Type} {t : Sem Bool} {u v : Sem α} {tb : CM Bool} {mu mv : CM β} {R : Rr α β} (st : Stb hb P) (Ht : Sm prog w hb A P t IsB tb) (Hu : Sm prog w hb A P u R mu) (Hv : Sm prog w hb A P v R mv) :
    Sm prog w hb A P (t >>= fun c => if c then u else v) R (bindC tb fun c => condC c mu mv) :=
  Ht.bind (Sm.bool fun c => by
    cases c with
    | true => exact Hu
    | false => exact Hv) st
theorem sm_IfExp {t b o : Expr} {p : Pos} (st : Stb hb P) (Ht : Sm prog w hb A P (isTrue t env (eval t env)) IsB (tr t)) (Hb : Sm prog w hb A P (eval b env) (IsV hb) (ev b)) (Ho : Sm prog w hb A P (eval o env) (IsV hb) (ev o)) :
    Sm prog w hb A P (eval (.IfExp t b o p) env) (IsV hb) (bindC (tr t) fun c => condC c (ev b) (ev o)) := by
  rw [arm_eval_IfExp]
  exact sm_if st Ht Hb Ho
theorem sm_Compare {a : Expr} {ops : List CmpOp} {cs : List Expr} {p : Pos} (hu : A.units + 100 < cLine) (st : Stb hb P) (Ha : Sm prog w hb A P (eval a env) (IsV hb) (ev a)) (Hc : Evs prog w hb A P env ev cs) :
    Sm prog w hb A P (eval (.Compare a ops cs p) env) (IsV hb) (if cs.all okE then bindC (ev a) fun x => chainC x ops (cs.map ev) else failC) := by
  rw [arm_eval_Compare]
  exact .iteP fun ok => by
    rw [markedEach_eq _ _ ok]
    exact Ha.bind (fun x x' => sm_compareChain hu st ops cs x x' Hc) st
theorem sm_trCompare {a : Expr} {ops : List CmpOp} {cs : List Expr} {p : Pos} {x1 : Sem Value} (hu : A.units + 100 < cLine) (st : Stb hb P) (Ha : Sm prog w hb A P (eval a env) (IsV hb) (ev a)) (Hc : Evs prog w hb A P env ev cs) :
    Sm prog w hb A P (isTrue (.Compare a ops cs p) env x1) IsB (if cs.all okE then bindC (ev a) fun x => bindC (chainC x ops (cs.map ev)) truthC else failC) := by
  rw [arm_isTrue_Compare]
  exact .iteP fun ok => by
    rw [markedEach_eq _ _ ok]
    exact Ha.bind (fun x x' => sm_testChain hu st ops cs x x' Hc) st
theorem base_eq {o : Expr} {a : Str} {x : Sem Value} (h : noSuper o = true) : attributeBase o a env x = x := by
  cases o with
  | Call f as ks p =>
    cases f with
    | Name n q =>
      cases as with
      | nil =>
        cases ks with
        | nil => exact nomatch h
        | cons => rfl
      | cons => rfl
    | _ => rfl
  | _ => rfl
theorem sm_go {v : Value} {d : PV} {e : Expr} {o : Value} : Sm prog w hb A (fun σ H h => IsV hb σ H h v d) (letTemporaryGo e o v >>= fun _ => pure v) (IsV hb) (pureC d) :=
  fun σ H s Φ I p e Q E k => wpAny_bind (wpAny_letTemporaryGo (Sm.pure (P := fun σ H h => IsV hb σ H h v d) (fun _ _ _ q => q) σ H s Φ I p e Q E k))
theorem sm_Attribute (hK : K.In hb) (hT : ClssOk K) {o : Expr} {a : Str} {p : Pos} (st : Stb hb P) (Ho : Sm prog w hb A P (eval o env) (IsV hb) (ev o)) :
    Sm prog w hb A P (eval (.Attribute o a p) env) (IsV hb) (if noSuper o then bindC (ev o) fun ov => AttrC ov a else failC) := by
  rw [arm_eval_Attribute]
  exact .iteP fun h => by
    rw [base_eq h]
    exact Ho.bind (fun x x' => Sm.at (Sm.left (Sm.holding ((sm_attr hK hT).imp fun _ _ _ q => q.2)) (st.and .val) fun v d => sm_go.imp fun _ _ _ q => q.2)) st
theorem sub_tail {E : Value → Shared → Prop} {s : Shared} {value slice : Expr} {o i : Value} {T id : String} {Q : Value → Shared → Prop} (hT : s.TypeIs o T)
    (hl : typeLookup (.type T) "__getitem__" = pure (some (.builtin id))) (h : wpAny (model prog w) A (getItem o i) Q E s) :
    wpAny (model prog w) A (getitemInPython o >>= fun b => subscripted slice b o i >>= fun r => letTemporaryGo value o r >>= fun _ => pure r) Q E s := by
  refine wpAny_bind ?_
  rw [getitemInPython_of_ne hT.not_modules]
  refine wpAny_bind (wpAny_specialOf hT hl ?_)
  have hs : ∃ vs, subscripted slice false o i = operate vs (getItem o i) := by
    cases slice with
    | Slice l u st p => cases st <;> exact ⟨_, rfl⟩
    | _ => exact ⟨_, rfl⟩
  obtain ⟨vs, hs⟩ := hs
  have fin : wpAny (model prog w) A (subscripted slice false o i >>= fun r => letTemporaryGo value o r >>= fun _ => pure r) Q E s := by
    rw [hs]
    exact wpAny_bind (wpAny_operate' (wpAny_mono h (fun r s₃ h₃ => wpAny_bind (wpAny_letTemporaryGo (wpAny_pure h₃))) fun _ _ x => x))
  first
    | exact wpAny_pure fin
    | exact wpAny_bind (wpAny_pure fin)
    | exact fin
noncomputable def Seqy (H : PH) (a : PV) : Prop := (∃ j l, a = .obj j ∧ H.get j = some (.list l)) ∨ (∃ l, a = .tup l) ∨ ∃ l, a = .ints l
theorem Seqy.type {σ H a} {s : Shared} {o : Value} (I : Inv hb σ H s.heap) (p : RV hb s.heap σ H.next o a) (y : Seqy H a) : ∃ T id, s.TypeIs o T ∧ typeLookup (.type T) "__getitem__" = pure (some (.builtin id)) := by
  have p := RV.inv p
  rcases y with ⟨j, l, rfl, g⟩ | ⟨l, rfl⟩ | ⟨l, rfl⟩
  · obtain ⟨_, vs, n, o1, _, f⟩ := I.list g
    rw [p.1]
    exact ⟨"list", _, ⟨_, o1, rfl⟩, slot_list_getitem.lookup⟩
  · obtain ⟨c, o, vs, n, rfl, o1, c1, _⟩ := p
    exact ⟨"tuple", _, ⟨_, o1, c1⟩, slot_tuple_getitem.lookup⟩
  · obtain ⟨c, vs, rfl, x, _⟩ := p
    exact ⟨"list", _, (x.at (fun o q => I.keep _ o q)).typeIs, slot_list_getitem.lookup⟩
theorem subs_seqy {a b : PV} {H : PH} {Φ : KV} (e : SubsC a b Φ H) : Seqy H a := by
  cases e with
  | list j l k v ho hi b g e q => exact .inl ⟨j, l, ho, g⟩
  | tup l k v ho => exact .inr (.inl ⟨l, ho⟩)
  | «ints» l k v ho => exact .inr (.inr ⟨l, ho⟩)
theorem slice_seqy {a b : PV} {H : PH} {Φ : KV} (e : SliceC a b Φ H) : Seqy H a := by
  cases e with
  | list j l k ho hu g b q => exact .inl ⟨j, l, ho, g⟩
  | tup l k ho => exact .inr (.inl ⟨l, ho⟩)
theorem sm_Subscript {o i : Expr} {p : Pos} (st : Stb hb P) (Ho : Sm prog w hb A P (eval o env) (IsV hb) (ev o)) (Hi : Sm prog w hb A P (eval i env) (IsV hb) (ev i)) :
    Sm prog w hb A P (eval (.Subscript o i p) env) (IsV hb) (bindC (ev o) fun ov => bindC (ev i) fun iv => SubsC ov iv) := by
  rw [arm_eval_Subscript]
  refine Ho.bind (fun x a => Sm.bind (Sm.holding (Hi.imp fun _ _ _ q => q.1)) (fun y b => Sm.at ?_) (st.and .val)) st
  intro σ H s Φ I ⟨⟨_, pa⟩, pb⟩ e Q E k
  obtain ⟨T, id, h1, h2⟩ := (subs_seqy e).type I pa
  exact sub_tail h1 h2 (sm_getItem σ H s Φ I ⟨pa, pb⟩ e Q E k)
theorem sm_SubSlice {o u : Expr} {p p2 : Pos} (st : Stb hb P) (Ho : Sm prog w hb A P (eval o env) (IsV hb) (ev o)) (Hu : Sm prog w hb A P (eval u env) (IsV hb) (ev u)) :
    Sm prog w hb A P (eval (.Subscript o (.Slice none (some u) none p2) p) env) (IsV hb) (bindC (ev o) fun ov => bindC (ev u) fun uv => SliceC ov uv) := by
  rw [arm_eval_Subscript]
  refine Ho.bind (fun x a => ?_) st
  intro σ H s Φ I p e' Q E k
  refine wpAny_bind (wpAny_holding (wpAny_Slice (upper := some u) (lower := none) (step := none) (wpAny_evalPart_none (wpAny_evalPart_some ?_))))
  refine (Hu.imp (P' := fun σ H h => P σ H h ∧ IsV hb σ H h x a) fun _ _ _ q => q.1) σ H s _ I p e' _ E fun y σ1 h1 tk1 b H1 e I1 r1 y1 => wpAny_evalPart_none (wpAny_bind (wpAny_standAt ?_))
  have x1 : RV hb h1 σ1 H1.next x a := RV.up p.2 r1 I
  have kk : ∀ b o, h1.get? b = some o → (h1.push { cls := .type "slice", data := .fields #[.none, y, .none] }).get? b = some o := fun b o e => Heap.get?_push_of_some _ e
  have R : Rl NoX σ1 H1 h1 σ1 H1 (h1.push { cls := .type "slice", data := .fields #[.none, y, .none] }) := .all kk
  have I2 := I1.extAll kk
  have x2 := x1.up R I1
  obtain ⟨T, id, h1', h2⟩ := (slice_seqy e).type (s := { s with heap := h1.push { cls := .type "slice", data := .fields #[.none, y, .none] }, toks := tk1 }) I2 x2
  exact sub_tail h1' h2 (sm_slice σ1 H1 { s with heap := h1.push { cls := .type "slice", data := .fields #[.none, y, .none] }, toks := tk1 } Φ I2 ⟨⟨x2, RV.up y1 R I1⟩, Heap.IsSliceOf.new ..⟩ e Q E fun v σ3 h3 tk3 b3 H3 e3 I3 r3 q3 => k v σ3 h3 tk3 b3 H3 e3 I3 ((r1.trans R).trans r3) q3)
theorem sm_trElse {e : Expr} (st : Stb hb P) (He : Sm prog w hb A P (eval e env) (IsV hb) (ev e)) (hn : isTrue e env (eval e env) = (do let v ← eval e env; standAt e.pos; holding [v] (truthy v))) :
    Sm prog w hb A P (isTrue e env (eval e env)) IsB (bindC (ev e) truthC) := by
  rw [hn]
  exact He.bind (fun v d => Sm.at <| Sm.holding ((sm_truth (v := v) (d := d)).imp fun _ _ _ q => q.2)) st
end
end Mine
namespace Mine
open PySem PySem.W PySem.Calls PyProof.Rows PySem.Spec PySem.SeqAt
section
variable {prog : Program} {w : World} {hb : Heap} {A : Around} {K : Frag} {sc : Scope} {env : Env} {ℓ : Loc} {P : Pr}
section
variable {h : Heap} {σ : Sg} {nx : Nat} {vs : List Value} {d d' : PV}
theorem RVs.one (p : RVs hb h σ nx vs [d]) : ∃ v, vs = [v] ∧ RV hb h σ nx v d :=
  let ⟨v, _, e, r, q⟩ := RVs.inv p
  ⟨v, (RVs.inv q : _ = []) ▸ e, r⟩
theorem RVs.two (p : RVs hb h σ nx vs [d, d']) : ∃ v v', vs = [v, v'] ∧ RV hb h σ nx v d ∧ RV hb h σ nx v' d' :=
  let ⟨v, _, e, r, q⟩ := RVs.inv p
  let ⟨v', e', r'⟩ := q.one
  ⟨v, v', e' ▸ e, r, r'⟩
end
theorem erase_arr {us : List Value} {k : Nat} : us.toArray.eraseIdxIfInBounds k = (us.eraseIdx k).toArray := by
  unfold Array.eraseIdxIfInBounds
  split
  · exact List.eraseIdx_toArray ..
  · rename_i h
    rw [List.size_toArray] at h
    rw [List.eraseIdx_of_length_le (by omega)]
theorem sm_lst {x : Value} {i : Nat} {name : Str} {vs : List Value} {ds : List PV} (id : String) (hid : (name = "append" → id = "list.append") ∧ (name = "pop" → id = "list.pop")) :
    Sm prog w hb A (fun σ H h => IsV hb σ H h x (.obj i) ∧ IsVs hb σ H h vs ds) (call (.builtin id) (x :: vs)) (IsV hb) (LstMC i name ds) := by
  intro σ H s Φ I ⟨p, q⟩ e Q E k
  rw [(RV.inv p).1]
  cases e with
  | append l d h ha g n e =>
    rw [hid.1 h]
    subst ha
    obtain ⟨v, rfl, rv⟩ := RVs.one q
    obtain ⟨hi, us, m, o1, _, f⟩ := I.list g
    have hlen := f.length
    refine append_at o1 (fun h' e1 e2 => ?_) (size_le (by rw [List.size_toArray]; omega))
    obtain ⟨J1, J2⟩ := I.setList (h' := h') g (fun b hb => e1.2 b hb) (vs := us ++ [v]) (n := m + 1) (by rw [e2, List.push_toArray]) (f.append (.cons rv .nil))
    exact k _ _ _ s.toks _ _ e J1 J2 .none
  | pop l c d h ha g n hd e =>
    rw [hid.2 h]
    obtain ⟨j, hj⟩ : ∃ j : Int, (c : Int) = j := ⟨_, rfl⟩
    rw [hj] at ha
    obtain rfl : c = j.toNat := by omega
    subst ha
    obtain ⟨v, rfl, rv⟩ := RVs.one q
    obtain ⟨t, rfl⟩ := RV.inv rv
    obtain ⟨hi, us, m, o1, _, f⟩ := I.list g
    have hlen := f.length
    obtain ⟨v, hv, rv⟩ := f.get hd
    have hc := (List.getElem?_eq_some_iff.mp hv).1
    refine call_meets F.slot_list_pop ⟨_, o1, rfl⟩ F.entry_list_pop (F.args_list_pop_2 _ _) (PySem.MeetsSeq.list_pop_at _ us.toArray m j t j.toNat v (fitsIndex_of (by omega) (by omega)) (seqIndex_of (by omega) (by rw [List.size_toArray]; omega)) (toArr.trans hv) (size_le (by rw [List.size_toArray]; omega))) ⟨o1, ?_⟩
    obtain ⟨n', en⟩ := mapSeq_listOf (fun xs => xs.eraseIdxIfInBounds j.toNat) us.toArray m
    have e2 : (s.heap.update (σ i).1 (Obj.mapSeq fun xs => xs.eraseIdxIfInBounds j.toNat)).get? (σ i).1 = some (listOf (us.eraseIdx j.toNat).toArray n') := by
      rw [Heap.get?_update_self _ o1 (by rw [en]; rfl), en]
      rw [erase_arr]
    obtain ⟨J1, J2⟩ := I.setList (h' := s.heap.update (σ i).1 (Obj.mapSeq fun xs => xs.eraseIdxIfInBounds j.toNat)) g (fun b hb => Heap.get?_update_ne _ _ _ _ hb) e2 (f.eraseIdx (i := j.toNat))
    exact k _ _ _ s.toks _ _ e J1 J2 (rv.up J2 I)
theorem asciiP_all {s : Str} (h : asciiP s = true) : ∀ c ∈ s.cps.toList, c < 128 := fun c hc => of_decide_eq_true (List.all_eq_true.mp h c hc)
theorem tooLong_no {n : Nat} (h : n ≤ 1000000) : Builtin.Str.tooLong n = false := by
  unfold Builtin.Str.tooLong
  rw [sizeLine_eq]
  exact decide_eq_false (by omega)
theorem joinP_inv {d : PV} {ds : List PV} {ss : List Str} (e : joinP (d :: ds) = some ss) : ∃ x ss', d = .str x ∧ joinP ds = some ss' ∧ ss = x :: ss' := by
  cases d with
  | str x => exact let ⟨ss', e', q⟩ := Option.map_eq_some_iff.mp e; ⟨x, ss', rfl, e', q.symm⟩
  | _ => exact nomatch e
theorem joinP_strs {hb h σ nx vs ds} (p : RVs hb h σ nx vs ds) : ∀ ss, joinP ds = some ss → ∃ l : List (Str × Tok), vs = strValues l ∧ l.map (·.1) = ss :=
  p.ind (M := fun vs ds => ∀ ss, joinP ds = some ss → ∃ l : List (Str × Tok), vs = strValues l ∧ l.map (·.1) = ss) (fun ss e => ⟨[], rfl, Option.some.inj e⟩) fun v d vs ds a _ r ss e => by
    obtain ⟨x, ss', rfl, e', rfl⟩ := joinP_inv e
    obtain ⟨t, rfl⟩ := RV.inv a
    obtain ⟨l, rfl, rfl⟩ := r _ e'
    exact ⟨(x, t) :: l, rfl, rfl⟩
theorem fold_len_le : ∀ (ss : List Str) (k : Nat), ss.all (fun x => decide (x.length ≤ 100)) = true → ss.foldl (fun a (x : Str) => a + x.length + 0) k ≤ k + ss.length * 100
  | [], k, _ => Nat.le_add_right _ _
  | x :: ss, k, h => by
    rw [List.all_cons, Bool.and_eq_true] at h
    have := fold_len_le ss (k + x.length + 0) h.2
    have h1 := of_decide_eq_true h.1
    rw [List.foldl_cons, List.length_cons]
    omega
theorem join_len_le : ∀ (ss : List Str), ss.all (fun x => decide (x.length ≤ 100)) = true → (Str.join ⟨#[]⟩ ss).length ≤ ss.length * 100
  | [], _ => Nat.le_refl 0
  | [x], h => by
    have := of_decide_eq_true (Bool.and_eq_true_iff.mp h).1
    show x.length ≤ 1 * 100
    omega
  | x :: y :: ss, h => by
    rw [List.all_cons, Bool.and_eq_true] at h
    have ih := join_len_le (y :: ss) h.2
    have h1 := of_decide_eq_true h.1
    have : (Str.join ⟨#[]⟩ (x :: y :: ss)).length = x.length + 0 + (Str.join ⟨#[]⟩ (y :: ss)).length := by
      show ((x ++ ⟨#[]⟩ ++ Str.join ⟨#[]⟩ (y :: ss) : Str)).length = _
      rw [Str.length_append, Str.length_append]; rfl
    rw [this, List.length_cons]
    omega
theorem str_empty {s : Str} (h : s.length = 0) : s = ⟨#[]⟩ := by
  obtain ⟨a⟩ := s
  exact congrArg Str.mk (Array.size_eq_zero_iff.mp (h : a.size = 0))
theorem sm_strCall {x : Value} {y : Str} {name : Str} {vs : List Value} {ds : List PV} (id : String) (hid : ((name = "lower" → id = "str.lower") ∧ (name = "upper" → id = "str.upper")) ∧ (name = "strip" → id = "str.strip") ∧ (name = "join" → id = "str.join")) :
    Sm prog w hb A (fun σ H h => IsV hb σ H h x (.str y) ∧ IsVs hb σ H h vs ds) (call (.builtin id) (x :: vs)) (IsV hb) (StrMC y name ds) := by
  intro σ H s Φ I ⟨p, q⟩ e Q E k
  obtain ⟨t, rfl⟩ := RV.inv p
  have map_len : ∀ f : Nat → Nat, (⟨y.cps.map f⟩ : Str).length = y.length := fun f => Array.size_map ..
  cases e with
  | lower h ha g n e =>
    rw [hid.1.1 h]
    subst ha
    cases (RVs.inv q : vs = [])
    have e1 : Txt.lower y = lowP y := lower_ascii (asciiP_all g)
    refine SC.lower (tooLong_no ?_) ?_
    · rw [e1, lowP, map_len]; omega
    · rw [e1]; exact k _ _ s.heap _ _ _ e I .refl (.str _ _)
  | upper h ha g n e =>
    rw [hid.1.2 h]
    subst ha
    cases (RVs.inv q : vs = [])
    have e1 : Txt.upper y = uppP y := upper_ascii (asciiP_all g)
    refine SC.upper (tooLong_no ?_) ?_
    · rw [e1, uppP, map_len]; omega
    · rw [e1]; exact k _ _ s.heap _ _ _ e I .refl (.str _ _)
  | strip z h ha n e =>
    rw [hid.2.1 h]
    subst ha
    obtain ⟨v, rfl, rv⟩ := RVs.one q
    obtain ⟨u, rfl⟩ := RV.inv rv
    exact SC.stripChars (fun t' k' => k _ _ s.heap _ _ _ e I .refl (.str _ _)) (size_le (by omega))
  | join j l ss h ha g hj n0 n b e =>
    rw [hid.2.2 h]
    subst ha
    obtain ⟨v, rfl, rv⟩ := RVs.one q
    rw [(RV.inv rv).1]
    obtain ⟨_, us, m, o1, _, f⟩ := I.list g
    obtain ⟨ps, rfl, rfl⟩ := joinP_strs f _ hj
    obtain rfl := str_empty n0
    have fl := fold_len_le _ 0 b
    have jl := join_len_le _ b
    have fin : ∀ t' k', Q (.str (Str.join ⟨#[]⟩ (ps.map (·.1))) t') { s with toks := k' } := fun t' k' => k _ _ s.heap _ _ _ e I .refl (.str _ _)
    refine call_meets F.slot_str_join (typeIs_str _ _ _) F.entry_str_join (F.args_str_join_2 _ _) (meets_str_join_list ⟨#[]⟩ t _ ps (tooLong_no ?_)) ⟨listOf_isList o1, ?_⟩
    · rw [List.foldl_toArray]
      exact Nat.le_trans fl (by omega)
    · cases ps with
      | nil => exact ⟨size_le (by rw [StrLaws.glued_eq_join]; exact Nat.zero_le _), by rw [StrLaws.glued_eq_join]; exact fin _ _⟩
      | cons p ps =>
        cases ps with
        | nil => exact fin p.2 s.toks
        | cons p2 ps => exact ⟨size_le (by rw [StrLaws.glued_eq_join]; omega), by rw [StrLaws.glued_eq_join]; exact fin _ _⟩
end
end Mine
namespace Mine
open PySem PySem.W PySem.Calls PyProof.Rows PySem.Spec PySem.SeqAt
theorem slot_bytes_repr' : Slot "bytes" "__repr__" "bytes.__repr__" :=
  .of (owner := "bytes") (n := "__repr__") (by rw [typeLookup_type, builtinLookup_eq_fast]; kernel_rfl) (by decide +kernel) (by decide +kernel) (by decide +kernel)
    (by first | exact .inl (by decide +kernel) | exact .inr (by decide +kernel)) (by rw [isSubtype_type]; kernel_rfl)
theorem entry_bytes_repr' : entryFor table "bytes.__repr__" = some Builtin.«bytes.__repr__» := entryFor_of_tree (by kernel_rfl)
theorem args_bytes_repr' (a : Value) : argsOk "bytes.__repr__" ⟨[a], []⟩ := by unfold argsOk; kernel_rfl
section
variable {prog : Program} {w : World} {hb : Heap} {A : Around} {K : Frag} {sc : Scope} {env : Env} {ℓ : Loc} {P : Pr}
theorem gives_repr_z (t : Tok) : Gives (Builtin.«bytes.__repr__» ⟨[.bytes #[122] t], []⟩) (.str "b'z'") := .of_eq (by kernel_rfl)
theorem meets_bool_bytes (x : Array UInt8) (t : Tok) (hx : x.size ≤ 1000) :
    Meets (Builtin.«bool.__new__» ⟨[.type "bool", .bytes x t], []⟩) (fun _ R s => ∀ tk, R (.ok (.ret (.bool ((x.size : Int) != 0)))) { s with toks := tk }) :=
  Meets.of_wp fun prog w A R s hs => by
    obtain ⟨hp, g, d, tk, os⟩ := s
    have f1 := F.conv_sub_bool
    repeat (any_goals (first | assumption | (with_reducible refine truthy_bytes (by omega) ?_) | wp_step))
    all_goals first | exact ⟨_, rfl, hs _⟩ | exact hs _ | skip
theorem rvs_ints {hb h : Heap} {σ : Sg} {nx : Nat} : ∀ (l : List Value) (k : Nat), (∀ j v, l[j]? = some v → ∃ t, v = Value.int ((k + j : Nat) : Int) t) → RVs hb h σ nx l ((List.range' k l.length).map fun k : Nat => PV.int (k : Int)) := by
  intro l
  induction l with
  | nil => exact fun _ _ => .nil
  | cons v l ih =>
    intro k h
    obtain ⟨t, rfl⟩ := h 0 v rfl
    rw [List.length_cons, List.range'_succ, List.map_cons]
    exact .cons (.int _ _) (ih (k + 1) fun j u hj => (Nat.add_right_comm k 1 j).symm ▸ h (j + 1) u hj)
theorem Inv.addListAt {hb σ H h h'} (I : Inv hb σ H h) {vs : List Value} {l : List PV} {a : Addr} {n : Nat} (k : ∀ b o, h.get? b = some o → h'.get? b = some o) (fa : h.get? a = none) (e : h'.get? a = some (listOf vs.toArray n)) (r : RVs hb h σ H.next vs l) :
    Inv hb (sgUpd σ H.next (a, a)) (H.push (.list l)) h' ∧ Rl NoX σ H h (sgUpd σ H.next (a, a)) (H.push (.list l)) h' ∧ RV hb h' (sgUpd σ H.next (a, a)) (H.push (.list l)).next (.ref a) (.obj H.next) := by
  have k2 : Keeps2 h σ H.next h' (sgUpd σ H.next (a, a)) (H.next + 1) := ⟨Nat.le_succ _, fun i hi => sgUpd_ne (Nat.ne_of_lt hi), fun _ _ e _ _ => k _ _ e, fun _ _ e _ _ => k _ _ e⟩
  obtain ⟨x, y⟩ := I.add k fa fa (o := .list l) ⟨vs, n, e, rfl, r.mono k2⟩
  refine ⟨x, y, ?_⟩
  have := RV.obj (hb := hb) (h := h') (σ := sgUpd σ H.next (a, a)) (nx := H.next + 1) (i := H.next) (Nat.lt_succ_self _)
  rw [sgUpd_at] at this
  exact this
theorem sm_type {t : String} {vs : List Value} {ds : List PV} (hh : A.handled = none) : Sm prog w hb A (fun σ H h => IsVs hb σ H h vs ds) (call (.type t) vs) (IsV hb) (TypeC t ds) := by
  intro σ H s Φ I p e Q E k
  cases e with
  | range m h ha n e =>
    subst h ha
    obtain ⟨v, rfl, rv⟩ := RVs.one p
    obtain ⟨u, rfl⟩ := RV.inv rv
    refine call_range_1 ?_
    have kk : ∀ b o, s.heap.get? b = some o → (s.heap.push { cls := .type "range", data := .fields #[.int 0 s.toks, .int (m : Int) u, .int 1 (s.toks + 1)] }).get? b = some o := fun b o e => Heap.get?_push_of_some _ e
    exact k _ _ _ _ _ _ e (I.extAll kk) (.all kk) (.rng (IsRange.new ..))
  | listR m h ha n e =>
    subst h ha
    obtain ⟨v, rfl, rv⟩ := RVs.one p
    obtain ⟨c, t, u, w', rfl, hr⟩ := RV.inv rv
    refine call_list_range (n := m) hh hr (small_one (by omega) (by omega) (by omega) (by omega)) ?_ (by omega) fun h' tk acc' c' kk e1 it => ?_
    · rw [rangeSize_one]; split <;> omega
    · obtain ⟨J1, J2, J3⟩ := I.addListAt kk (get_size_none s.heap) (vs := acc'.toList) (n := c') e1 (rvs_ints acc'.toList 0 fun j v hj => by
        obtain ⟨t', e'⟩ := it.2 j v ((Array.getElem?_toList ..).symm.trans hj)
        exact ⟨t', by rw [e']; congr 1; omega⟩)
      rw [Array.length_toList, it.1, ← List.range_eq_range'] at J1 J2 J3
      exact k _ _ _ _ _ _ e J1 J2 J3
  | list j l h ha g n e =>
    subst h ha
    obtain ⟨v, rfl, rv⟩ := RVs.one p
    rw [(RV.inv rv).1]
    obtain ⟨_, us, m, o1, _, f⟩ := I.list g
    have hlen := f.length
    refine call_list_seq _ (.inl rfl) o1 rfl rfl (fun h' c' kk e1 => ?_) (size_le (by rw [List.size_toArray]; omega))
    obtain ⟨J1, J2, J3⟩ := I.addListAt kk (get_size_none s.heap) (n := c') e1 f
    exact k _ _ _ s.toks _ _ e J1 J2 J3
  | int b h ha e =>
    subst h ha
    obtain ⟨v, rfl, rv⟩ := RVs.one p
    rw [(RV.inv rv : v = .bool b)]
    exact call_int_bool (k _ _ s.heap _ _ _ e I .refl (.int _ _))
  | bool d h ha e =>
    subst h ha
    obtain ⟨v, rfl, rv⟩ := RVs.one p
    have rv := RV.inv rv
    have fin : ∀ b tk, Φ (.bool b) H → Q (.bool b) { s with toks := tk } := fun b tk e => k _ _ s.heap tk _ _ e I .refl (.bool _)
    cases d with
    | none => exact (rv : v = .none) ▸ call_bool_none (fin _ s.toks e)
    | bool x => exact (rv : v = .bool x) ▸ call_bool_bool (fin _ s.toks e)
    | int i => exact let ⟨_, q⟩ := rv; q ▸ call_bool_int (bne_dec (x := i) ▸ fin _ s.toks e)
    | str x => exact let ⟨_, q⟩ := rv; q ▸ call_bool_str (by have := e.1; omega) (bne_len (n := x.length) ▸ fin _ _ e.2)
    | bytes x => exact let ⟨_, q⟩ := rv; q ▸ call_bool_1 (meets_bool_bytes x _ e.1) (fun tk => ⟨rfl, bne_len (n := x.size) ▸ fin _ _ e.2⟩)
    | _ => exact e.elim
  | str m h ha n e =>
    subst h ha
    obtain ⟨v, rfl, rv⟩ := RVs.one p
    obtain ⟨u, rfl⟩ := RV.inv rv
    refine P.str_of_int ?_ (k _ _ s.heap _ _ _ e I .refl (.str _ _))
    have : (m : Int).natAbs.log2 ≤ (m : Int).natAbs := Nat.log2_le_self _
    omega
end
end Mine
namespace Mine
open PySem PySem.W PySem.Calls PyProof.Rows PySem.Spec PySem.SeqAt
section
variable {prog : Program} {w : World} {hb : Heap} {A : Around} {K : Frag} {sc : Scope} {env : Env} {ℓ : Loc} {P : Pr}
theorem any_empty {E : Value → Shared → Prop} {s : Shared} {l : Addr} {Q : Value → Shared → Prop} (hh : A.handled = none) (hl : s.heap.IsList l #[])
    (h : ∀ h' tk, (∀ b o, s.heap.get? b = some o → h'.get? b = some o) → Q (.bool false) { s with heap := h', toks := tk }) : wpAny (model prog w) A (call (.builtin "any") [.ref l]) Q E s := by
  have hlt : l < s.heap.objs.size := by obtain ⟨_, e, _⟩ := hl; exact Heap.lt_size e
  refine call_any_walk (wpAny_pyIter_list hl ?_)
  refine ⟨_, _, _, _, _, _, fun _ => false, rfl, Walks.list (A := A.in1) hh _ l (Nat.ne_of_lt hlt) #[], ⟨⟨_, Heap.get?_push_size _ rfl, rfl, rfl⟩, hl.push _⟩, fun i v s Q E hP _ => by simp at hP, fun h' tk hk => ?_⟩
  refine h h' tk fun b o e => hk b o (fun hm => ?_) (Heap.get?_push_of_some _ e)
  rcases List.mem_cons.mp hm with e1 | hm
  · have := Heap.lt_size e; rw [e1] at this; exact Nat.lt_irrefl _ this
  · cases hm
theorem clsAddr_inv {d : PV} {as : List Addr} (e : clsAddrs d = some as) : (∃ a, d = .raw (.ref a) ∧ as = [a]) ∨ ∃ l, d = .tup l ∧ tupAddrs l = some as := by
  cases d with
  | raw v =>
    cases v with
    | ref a => exact .inl ⟨a, rfl, (Option.some.inj e).symm⟩
    | _ => exact nomatch e
  | tup l => exact .inr ⟨l, rfl, e⟩
  | _ => exact nomatch e
theorem tupAddrs_inv {d : PV} {ds : List PV} {as : List Addr} (e : tupAddrs (d :: ds) = some as) : ∃ a as', d = .raw (.ref a) ∧ tupAddrs ds = some as' ∧ as = a :: as' := by
  cases d with
  | raw v =>
    cases v with
    | ref a => exact let ⟨as', e', q⟩ := Option.map_eq_some_iff.mp e; ⟨a, as', rfl, e', q.symm⟩
    | _ => exact nomatch e
  | _ => exact nomatch e
theorem tupAddrs_refs {hb h σ nx vs ds} (p : RVs hb h σ nx vs ds) : ∀ as, tupAddrs ds = some as → vs = as.map Value.ref :=
  p.ind (M := fun vs ds => ∀ as, tupAddrs ds = some as → vs = as.map Value.ref) (fun as e => Option.some.inj e ▸ rfl) fun v d vs ds a _ r as e => by
    obtain ⟨x, as', rfl, e', rfl⟩ := tupAddrs_inv e
    rw [(RV.inv a : v = .ref x), r _ e']
    rfl
theorem kitAny_of {C : Addr} {ci : ClsI} (O : ClsOk K C ci) : ∀ (as : List Addr), as.all (fun a => (cls a).isSome) = true → kitAny K (.ref C) (as.map Value.ref) = some (as.any fun a => ci.mro.contains a) := by
  intro as
  induction as with
  | nil => exact fun _ => rfl
  | cons a as ih =>
    intro h
    rw [List.all_cons, Bool.and_eq_true] at h
    have ih := ih h.2
    rw [List.map_cons, List.any_cons]
    unfold kitAny
    rw [O.mro a h.1]
    cases ci.mro.contains a with
    | true => rfl
    | false => exact ih
theorem isInst_inv {C : Addr} {as : List Addr} {r : Bool} (e : isInst C as = some r) : ∃ ci, cls C = some ci ∧ as.all (fun a => (cls a).isSome) = true ∧ r = as.any fun a => ci.mro.contains a := by
  unfold isInst at e
  cases hc : cls C with
  | none => rw [hc] at e; exact nomatch e
  | some ci =>
    rw [hc] at e
    dsimp only at e
    by_cases h : as.all (fun a => (cls a).isSome) = true
    · rw [if_pos h] at e; exact ⟨ci, rfl, h, (Option.some.inj e).symm⟩
    · rw [if_neg h] at e; exact nomatch e
theorem reprP_inv {d : PV} {x : Str} (e : reprP d = some x) : (d = .none ∧ x = "None") ∨ (d = .int 5 ∧ x = "5") ∨ (d = .str "x y" ∧ x = "'x y'") ∨ (d = .bytes #[122] ∧ x = "b'z'") := by
  unfold reprP at e
  split at e
  · exact .inl ⟨rfl, (Option.some.inj e).symm⟩
  · exact .inr (.inl ⟨rfl, (Option.some.inj e).symm⟩)
  · split at e
    · rename_i h; exact .inr (.inr (.inl ⟨h ▸ rfl, (Option.some.inj e).symm⟩))
    · exact nomatch e
  · split at e
    · rename_i h; exact .inr (.inr (.inr ⟨h ▸ rfl, (Option.some.inj e).symm⟩))
    · exact nomatch e
  · exact nomatch e
theorem repr_z_fits : (Str.ofString "b'z'").length ≤ sizeLine := by rw [sizeLine_eq]; decide
theorem ite_rv {hb h σ nx} {p : Prop} [Decidable p] {a b : Value} {x y : Int} (h1 : RV hb h σ nx a (.int x)) (h2 : RV hb h σ nx b (.int y)) : RV hb h σ nx (if p then a else b) (.int (if p then x else y)) := by
  by_cases q : p
  · rw [if_pos q, if_pos q]; exact h1
  · rw [if_neg q, if_neg q]; exact h2
theorem sm_builtin (hK : K.In hb) (hT : ClssOk K) {b : String} {vs : List Value} {ds : List PV} (hh : A.handled = none) : Sm prog w hb A (fun σ H h => IsVs hb σ H h vs ds) (call (.builtin b) vs) (IsV hb) (BuiltC b ds) := by
  intro σ H s Φ I p e Q E k
  cases e with
  | lenI l h ha n e =>
    subst h ha
    obtain ⟨v, rfl, rv⟩ := RVs.one p
    obtain ⟨a, us, rfl, il, ia⟩ := RV.inv rv
    have hlen := ia.length
    refine call_len_list (il.at fun o q => I.keep _ _ q) (by rw [List.size_toArray]; omega) ?_
    rw [List.size_toArray, hlen]
    exact k _ _ s.heap _ _ _ e I .refl (.int _ _)
  | len j l h ha g n e =>
    subst h ha
    obtain ⟨v, rfl, rv⟩ := RVs.one p
    rw [(RV.inv rv).1]
    obtain ⟨_, us, m, o1, _, f⟩ := I.list g
    have hlen := f.length
    refine call_len_list (listOf_isList o1) (by rw [List.size_toArray]; omega) ?_
    rw [List.size_toArray, hlen]
    exact k _ _ s.heap _ _ _ e I .refl (.int _ _)
  | max x y h ha e =>
    subst h ha
    obtain ⟨v, v', rfl, r1, r2⟩ := RVs.two p
    obtain ⟨t, rfl⟩ := RV.inv r1
    obtain ⟨u, rfl⟩ := RV.inv r2
    exact max_two_ints hh fun h' tk kk => k _ _ h' tk _ _ e (I.extAll kk) (.all kk) (ite_rv (.int _ _) (.int _ _))
  | min x y h ha e =>
    subst h ha
    obtain ⟨v, v', rfl, r1, r2⟩ := RVs.two p
    obtain ⟨t, rfl⟩ := RV.inv r1
    obtain ⟨u, rfl⟩ := RV.inv r2
    exact min_two_ints hh fun h' tk kk => k _ _ h' tk _ _ e (I.extAll kk) (.all kk) (ite_rv (.int _ _) (.int _ _))
  | chr x h ha n e =>
    subst h ha
    obtain ⟨v, rfl, rv⟩ := RVs.one p
    obtain ⟨t, rfl⟩ := RV.inv rv
    exact P.chr_of_int (Bool.or_eq_false_iff.mpr ⟨decide_eq_false (by omega), decide_eq_false (by omega)⟩) (k _ _ s.heap _ _ _ e I .refl (.str _ _))
  | ord c h ha e =>
    subst h ha
    obtain ⟨v, rfl, rv⟩ := RVs.one p
    obtain ⟨t, rfl⟩ := RV.inv rv
    exact P.ord_of_char (k _ _ s.heap _ _ _ e I .refl (.int _ _))
  | any j h ha g e =>
    subst h ha
    obtain ⟨v, rfl, rv⟩ := RVs.one p
    rw [(RV.inv rv).1]
    obtain ⟨_, us, m, o1, _, f⟩ := I.list g
    cases (RVs.inv f : us = [])
    exact any_empty hh (listOf_isList o1) fun h' tk kk => k _ _ h' tk _ _ e (I.extAll kk) (.all kk) (.bool _)
  | repr d x h ha er e =>
    subst h ha
    obtain ⟨v, rfl, rv⟩ := RVs.one p
    have rv := RV.inv rv
    rcases reprP_inv er with ⟨rfl, rfl⟩ | ⟨rfl, rfl⟩ | ⟨rfl, rfl⟩ | ⟨rfl, rfl⟩
    · exact (rv : v = .none) ▸ P.repr_of_none (k _ _ s.heap _ _ _ e I .refl (.str _ _))
    · obtain ⟨t, rfl⟩ := rv
      exact P.repr_of_int (by decide) (k _ _ s.heap _ _ _ e I .refl (.str _ _))
    · obtain ⟨t, rfl⟩ := rv
      have e1 : reprText "x y" = "'x y'" := by decide +kernel
      refine P.repr_of_str ?_ (by rw [e1, sizeLine_eq]; decide)
      rw [e1]
      exact k _ _ s.heap _ _ _ e I .refl (.str _ _)
    · obtain ⟨t, rfl⟩ := rv
      exact call_repr_gives (typeIs_bytes s _ t) slot_bytes_repr' entry_bytes_repr' (args_bytes_repr' _) (gives_repr_z t) (k _ _ s.heap _ _ _ e I .refl (.str _ _)) rfl repr_z_fits
  | inst j c C fs as r h ha g ec ei e =>
    subst h ha
    obtain ⟨v, v', rfl, r1, r2⟩ := RVs.two p
    rw [(RV.inv r1).1]
    obtain ⟨ci, hci, hall, rfl⟩ := isInst_inv ei
    obtain ⟨_, es, n, o1, o2, f⟩ := I.inst g
    have O := hT _ _ hci
    have Z := kitx_own (K := K) (x := (σ j).1) (D := C) (ox := instObj C (σ j).2) (od := dictOf es n) O.plainC O.dictC O.classC O.getC O.takeC O.objC
    have fin : ∀ tk, Q (.bool (as.any fun a => ci.mro.contains a)) { s with toks := tk } := fun tk => k _ _ s.heap tk _ _ e I .refl (.bool _)
    rcases clsAddr_inv ec with ⟨a, rfl, rfl⟩ | ⟨l, rfl, ht⟩
    · rw [(RV.inv r2 : v' = .ref a)]
      have ha : (cls a).isSome = true := (Bool.and_eq_true_iff.mp hall).1
      refine kia_one Z (hK.keeps I.keep) (instAt o1 o2) (O.mro a ha) (fun q => nomatch q) fun tk => ?_
      have := fin tk
      rwa [List.any_cons, List.any_nil, Bool.or_false] at this
    · obtain ⟨a, o, us, m, rfl, ho, hc, hd, hr⟩ := RV.inv r2
      obtain ⟨oc, od, odt, osl⟩ := o
      dsimp only at hc hd
      subst hc hd
      exact kia_tup (its := as.map Value.ref) Z (hK.keeps I.keep) (instAt o1 o2) (by rw [ho, ← tupAddrs_refs hr _ ht]) (kitAny_of O as hall) (fun q => nomatch q) fin
end
end Mine
namespace Mine
open PySem PySem.W PySem.Calls PyProof.Rows PySem.Spec PySem.SeqAt
noncomputable def Keeps (hb h : Heap) : Prop := ∀ b o, hb.get? b = some o → h.get? b = some o
noncomputable def KeepF (prog : Program) (w : World) (hb : Heap) (f : Value) : Prop := ∀ h, Keeps hb h → ∃ k, (k = Keeper.frame ∨ k = Keeper.machine ∨ k = Keeper.boundFrame) ∧ Looks (model prog w) h (keeperOf f) k
noncomputable abbrev KnownOk (K : Frag) : Prop := ∀ a, ((fns a).isSome || (cls a).isSome) = true → keepIn K (.ref a) = true
section
variable {prog : Program} {w : World} {hb : Heap} {A : Around} {K : Frag} {sc : Scope} {env : Env} {ℓ : Loc} {P : Pr} {ev : Expr → CM PV}
theorem KeepF.builtin {b : String} : KeepF prog w hb (.builtin b) := fun h _ => ⟨.machine, .inr (.inl rfl), .now⟩
theorem KeepF.type {b : String} : KeepF prog w hb (.type b) := fun h _ => ⟨.machine, .inr (.inl rfl), .now⟩
theorem KeepF.of_K (hK : K.In hb) {f : Value} (h : keepIn K f = true) : KeepF prog w hb f := fun h' k => keeps_K h h' (hK.keeps k)
theorem calV_inv (hK : K.In hb) (hR : KnownOk K) {v d : PV} (e : calV v = some d) : d = v ∧ ∃ f, v = .raw f ∧ KeepF prog w hb f := by
  cases v with
  | raw f =>
    cases f with
    | builtin b => exact ⟨(Option.some.inj e).symm, _, rfl, .builtin⟩
    | type b => exact ⟨(Option.some.inj e).symm, _, rfl, .type⟩
    | ref a =>
      unfold calV at e
      dsimp only at e
      by_cases h : ((fns a).isSome || (cls a).isSome) = true
      · rw [if_pos h] at e; exact ⟨(Option.some.inj e).symm, _, rfl, .of_K hK (hR a h)⟩
      · rw [if_neg h] at e; exact nomatch e
    | _ => exact nomatch e
  | _ => exact nomatch e
theorem star_ok {e : Expr} {es : List Expr} (ok : okE e = true) : starEach (e :: es) env = (false, eval e env) :: starEach es env := by
  cases e <;> first | rfl | exact nomatch ok
theorem plain_args {pos : Pos} {es : List Expr} : es.all okE = true → (backTo pos (starEach es env)).any (·.1) = false := by
  induction es with
  | nil => exact fun _ => rfl
  | cons e es ih =>
    intro ok
    rw [List.all_cons, Bool.and_eq_true] at ok
    rw [star_ok ok.1]
    exact ih ok.2
theorem sm_callWith {f : Value} {first : List Value} {args : List Expr} {pos : Pos} {m : List PV → CM PV} (st : Stb hb P) (He : Evs prog w hb A P env ev args) (ok : args.all okE = true)
    (hk : KeepF prog w hb f) (Hc : ∀ vs ds, Sm prog w hb A (fun σ H h => P σ H h ∧ IsVs hb σ H h vs ds) (call f (first ++ vs)) (IsV hb) (m ds)) :
    Sm prog w hb A P (callWith pos f first (backTo pos (starEach args env)) []) (IsV hb) (bindC (seqC (args.map ev)) m) := by
  intro σ H s Φ I p e Q E k
  refine callWith_of (P := fun h => Keeps hb h) (by rw [plain_args (env := env) (pos := pos) ok]; rfl) hk ?_
  cases args with
  | nil => exact evalArgs_nil3 ⟨I.keep, Hc [] [] σ H s Φ I ⟨p, .nil⟩ e Q E k⟩
  | cons a es =>
    have main := sm_spliced (pos := pos) st He ok σ H s _ I p e
    rw [star_ok (Bool.and_eq_true_iff.mp ok).1] at main ⊢
    exact evalArgs_plain (main _ E fun vs σ1 h1 tk1 ds H1 e2 I1 r1 q1 => ⟨I1.keep, Hc vs ds σ1 H1 { s with heap := h1, toks := tk1 } Φ I1 ⟨st _ _ _ _ _ _ I r1 I1 p, q1⟩ e2 Q E fun a σ2 h2 tk2 b H2 e3 I2 r2 q2 => k a σ2 h2 tk2 b H2 e3 I2 (r1.trans r2) q2⟩)
noncomputable abbrev Calls' (prog : Program) (w : World) (hb : Heap) (A : Around) (r : Lv) : Prop := ∀ f vs ds, Sm prog w hb A (fun σ H h => IsVs hb σ H h vs ds) (call f vs) (IsV hb) (callV r (.raw f) ds)
theorem arm_Call_Name {f : Str} {p q : Pos} {args : List Expr} : eval (.Call (.Name f p) args [] q) env = (eval (.Name f p) env >>= fun g => callWith q g [] (backTo q (starEach args env)) []) := rfl
theorem sm_CallName (hK : K.In hb) (hR : KnownOk K) (G : GlobOk hb) {r : Lv} {f : Str} {p q : Pos} {args : List Expr} (He : Evs prog w hb A (Frm hb sc env ℓ) env ev args) (Hc : Calls' prog w hb A r) :
    Sm prog w hb A (Frm hb sc env ℓ) (eval (.Call (.Name f p) args [] q) env) (IsV hb)
      (if args.all okE && decide (args.length < 20) then bindC (optC ((nameP sc ℓ f).bind calV)) fun fv => bindC (seqC (args.map ev)) fun vs => callV r fv vs else failC) := by
  refine .iteP fun h => ?_
  rw [arm_Call_Name]
  refine Sm.weak (m := bindC (optC (nameP sc ℓ f)) fun v => bindC (optC (calV v)) fun fv => bindC (seqC (args.map ev)) fun vs => callV r fv vs) ((sm_name G).bind (fun g gv => ?_) Frm.stb) ?_
  · intro σ H s Φ I pp e Q E k
    cases hc : calV gv with
    | none =>
      have e : optC (calV gv) (fun fv H => bindC (seqC (args.map ev)) (fun vs => callV r fv vs) Φ H) H := e
      rw [hc] at e
      exact e.elim
    | some d =>
      have e2 : optC (calV gv) (fun fv H => bindC (seqC (args.map ev)) (fun vs => callV r fv vs) Φ H) H := e
      rw [hc] at e2
      obtain ⟨rfl, g', rfl, hk⟩ := calV_inv (prog := prog) (w := w) hK hR hc
      obtain rfl : g = g' := pp.2.inv
      exact sm_callWith (m := callV r (.raw g)) (first := []) (Frm.stb.and .val) (fun e he => (He e he).imp fun _ _ _ q => q.1) (Bool.and_eq_true_iff.mp h).1 hk (fun vs ds => (Hc g vs ds).imp fun _ _ _ q => q.2) σ H s Φ I pp e2 Q E k
  · intro Φ H
    cases nameP sc ℓ f <;> exact id
end
end Mine
namespace Mine
open PySem PySem.W PySem.Calls PyProof.Rows PySem.Spec PySem.SeqAt
section
variable {prog : Program} {w : World} {hb : Heap} {A : Around} {K : Frag} {sc : Scope} {env : Env} {ℓ : Loc} {P : Pr} {ev : Expr → CM PV}
noncomputable def lstId (name : Str) : String := if name = "append" then "list.append" else "list.pop"
noncomputable def strId (name : Str) : String := if name = "lower" then "str.lower" else if name = "upper" then "str.upper" else if name = "strip" then "str.strip" else "str.join"
theorem lstId_ok {name : Str} : (name = "append" → lstId name = "list.append") ∧ (name = "pop" → lstId name = "list.pop") := ⟨fun h => h ▸ rfl, fun h => h ▸ rfl⟩
theorem strId_ok {name : Str} : ((name = "lower" → strId name = "str.lower") ∧ (name = "upper" → strId name = "str.upper")) ∧ (name = "strip" → strId name = "str.strip") ∧ (name = "join" → strId name = "str.join") := ⟨⟨fun h => h ▸ rfl, fun h => h ▸ rfl⟩, fun h => h ▸ rfl, fun h => h ▸ rfl⟩
noncomputable def CalleeIs (K : Frag) (ov : Value) (od : PV) (name : Str) (x : Value × List Value) : Callee → Prop
  | .fn a => x = (.ref a, [ov]) ∧ keepIn K (.ref a) = true
  | .lst i => od = .obj i ∧ x = (.builtin (lstId name), [ov])
  | .str s => od = .str s ∧ x = (.builtin (strId name), [ov])
structure Meth (prog : Program) (w : World) (A : Around) (v : Value) (name : Str) (pl : Sem Bool) (Q : Value × List Value → Shared → Prop) (E : Value → Shared → Prop) (s : Shared) : Prop where
  h : wpAny (model prog w) A (getMethod v name pl) Q E s
section
variable {y : Str} {t : Tok} {name : Str} {id : String} {pl : Sem Bool} {Q : Value × List Value → Shared → Prop} {E : Value → Shared → Prop} {s : Shared} {i : Nat} {σ : Sg} {us : List Value} {m : Nat}
theorem str_one (sl : Slot "str" name id) (ty : typeOf (.builtin id) = pure (.type "method_descriptor")) (fin : Q (.builtin id, [.str y t]) s) : Meth prog w A (.str y t) name pl Q E s :=
  ⟨getMethod_builtin (typeIs_str s y t) F.plainAttrs_str sl ty (fun _ q => nomatch q) fin⟩
theorem str_meth (n : name = "lower" ∨ name = "upper" ∨ name = "strip" ∨ name = "join") (fin : Q (.builtin (strId name), [.str y t]) s) : Meth prog w A (.str y t) name pl Q E s := by
  rcases n with h | h | h | h
  · rw [strId_ok.1.1 h] at fin; rw [h]; exact str_one F.slot_str_lower F.type_str_lower fin
  · rw [strId_ok.1.2 h] at fin; rw [h]; exact str_one F.slot_str_upper F.type_str_upper fin
  · rw [strId_ok.2.1 h] at fin; rw [h]; exact str_one F.slot_str_strip F.type_str_strip fin
  · rw [strId_ok.2.2 h] at fin; rw [h]; exact str_one F.slot_str_join F.type_str_join fin
theorem lst_one {a : Addr} (o1 : s.heap.get? a = some (listOf us.toArray m)) (sl : Slot "list" name id) (ty : typeOf (.builtin id) = pure (.type "method_descriptor")) (fin : Q (.builtin id, [.ref a]) s) : Meth prog w A (.ref a) name pl Q E s :=
  ⟨getMethod_builtin ⟨_, o1, rfl⟩ F.plainAttrs_list sl ty (fun a q => ⟨_, Value.ref.inj q ▸ o1, rfl⟩) fin⟩
theorem lst_meth {a : Addr} (o1 : s.heap.get? a = some (listOf us.toArray m)) (n : name = "append" ∨ name = "pop") (fin : Q (.builtin (lstId name), [.ref a]) s) : Meth prog w A (.ref a) name pl Q E s := by
  rcases n with h | h
  · rw [lstId_ok.1 h] at fin; rw [h]; exact lst_one o1 slot_list_append type_list_append fin
  · rw [lstId_ok.2 h] at fin; rw [h]; exact lst_one o1 F.slot_list_pop F.type_list_pop fin
end
theorem sm_getMethod (hK : K.In hb) (hT : ClssOk K) {ov : Value} {od : PV} {name : Str} {pl : Sem Bool} :
    Sm prog w hb A (fun σ H h => IsV hb σ H h ov od) (getMethod ov name pl) (fun _ _ _ x c => CalleeIs K ov od name x c) (CalleeC od name) := by
  intro σ H s Φ I p e Q E k
  have p : RV hb s.heap σ H.next ov od := p
  cases e with
  | list i l ho g n e =>
    subst ho
    rw [(RV.inv p).1] at k ⊢
    obtain ⟨_, us, m, o1, _, f⟩ := I.list g
    exact (lst_meth o1 n (k (.builtin (lstId name), [.ref (σ i).1]) _ s.heap s.toks _ _ e I .refl ⟨rfl, rfl⟩)).h
  | inst i C fs f ho g nf hm e =>
    subst ho
    rw [(RV.inv p).1] at k ⊢
    obtain ⟨_, es, n, o1, o2, fl⟩ := I.inst g
    obtain ⟨ci, hci, hm⟩ : ∃ ci, cls C = some ci ∧ ci.meths.lookup name = some f := by
      unfold methOf at hm
      cases hc : cls C with
      | none => rw [hc] at hm; exact nomatch hm
      | some ci => rw [hc] at hm; exact ⟨ci, rfl, hm⟩
    have O := hT _ _ hci
    obtain ⟨⟨h1, h2⟩, h3⟩ := O.meths _ _ hm
    exact method_fn (hK.keeps I.keep) (instAt o1 o2) O.ga O.gat h1 h2 (congrArg (Option.map _) (fl.lookN nf)) (k _ _ s.heap s.toks _ _ e I .refl ⟨rfl, h3⟩)
  | str y ho n e =>
    subst ho
    obtain ⟨t, ht⟩ := RV.inv p
    subst ht
    exact (str_meth n (k (.builtin (strId name), [.str y t]) _ s.heap s.toks _ _ e I .refl ⟨rfl, rfl⟩)).h
theorem plain_form {q : Pos} {args : List Expr} (ok : args.all okE = true) (n : args.length < 20) : methodCallForm (args.length + ([] : List Keyword).length) (backTo q (starEach args env)) (backToKw q (keywordEach [] env)) = true := by
  have h := plain_args (env := env) (pos := q) ok
  have e1 : (backTo q (starEach args env)).all (fun x => !x.1) = true := by
    rw [List.all_eq_true]
    intro x hx
    have := List.any_eq_false.mp h x hx
    exact (Bool.eq_false_iff.mpr this) ▸ rfl
  unfold methodCallForm
  rw [e1]
  show (true && true && decide (args.length + 0 + 0 < 30)) = true
  rw [decide_eq_true (by omega)]
  rfl
theorem plain_pos {o : Expr} {p q : Pos} (h : (p.endLine == q.line) = true) : methodCallPos true o env p q = pure q := by
  unfold methodCallPos; rw [h]; rfl
theorem sm_CallMethod (hK : K.In hb) (hT : ClssOk K) {r : Lv} {o : Expr} {name : Str} {p q : Pos} {args : List Expr} (st : Stb hb P)
    (Ho : Sm prog w hb A P (eval o env) (IsV hb) (ev o)) (He : Evs prog w hb A P env ev args) (Hc : Calls' prog w hb A r) :
    Sm prog w hb A P (eval (.Call (.Attribute o name p) args [] q) env) (IsV hb)
      (if noSuper o && p.endLine == q.line && args.all okE && decide (args.length < 20) then bindC (ev o) fun ov => bindC (CalleeC ov name) fun c => bindC (seqC (args.map ev)) fun vs => applyC r ov name vs c else failC) := by
  refine .iteP fun h => ?_
  rw [Bool.and_eq_true, Bool.and_eq_true, Bool.and_eq_true] at h
  obtain ⟨⟨⟨h1, h2⟩, h3⟩, h4⟩ := h
  rw [arm_eval_Call, base_eq h1]
  refine Ho.bind (fun ov od => Sm.at ?_) st
  unfold methodCall
  rw [plain_form h3 (of_decide_eq_true h4)]
  refine Sm.bind (Sm.holding ((sm_getMethod hK hT).imp (P' := fun σ H h => P σ H h ∧ IsV hb σ H h ov od) fun _ _ _ q => q.2)) (fun x c => ?_) (st.and .val)
  obtain ⟨f, first⟩ := x
  rw [plain_pos h2]
  show Sm _ _ _ _ _ (callWith q f first (backTo q (starEach args env)) []) _ _
  intro σ H s Φ I pp e Q E k
  have hc : CalleeIs K ov od name (f, first) c := pp.2
  have go := sm_callWith (prog := prog) (w := w) (hb := hb) (A := A) (P := fun σ H h => P σ H h ∧ IsV hb σ H h ov od) (f := f) (first := first) (pos := q) (m := fun vs => applyC r od name vs c) (st.and .val) (fun e he => (He e he).imp fun _ _ _ q => q.1) h3 ?_ ?_ σ H s Φ I pp.1 e Q E k
  · exact go
  · cases c with
    | fn a => obtain ⟨q, h⟩ := hc; rw [(Prod.mk.inj q).1]; exact .of_K hK h
    | lst i => obtain ⟨_, q⟩ := hc; rw [(Prod.mk.inj q).1]; exact .builtin
    | str s => obtain ⟨_, q⟩ := hc; rw [(Prod.mk.inj q).1]; exact .builtin
  · intro vs ds
    cases c with
    | fn a =>
      obtain ⟨q, h⟩ := hc
      rw [(Prod.mk.inj q).1, (Prod.mk.inj q).2]
      exact (Hc (.ref a) (ov :: vs) (od :: ds)).imp fun _ _ _ q => .cons q.1.2 q.2
    | lst i =>
      obtain ⟨h, q⟩ := hc
      rw [(Prod.mk.inj q).1, (Prod.mk.inj q).2]
      exact (sm_lst (lstId name) lstId_ok).imp fun _ _ _ q => ⟨h ▸ q.1.2, q.2⟩
    | str y =>
      obtain ⟨h, q⟩ := hc
      rw [(Prod.mk.inj q).1, (Prod.mk.inj q).2]
      exact (sm_strCall (strId name) strId_ok).imp fun _ _ _ q => ⟨h ▸ q.1.2, q.2⟩
end
end Mine
namespace Mine
open PySem PySem.W PySem.Calls PyProof.Rows PySem.Spec PySem.SeqAt
theorem fm_congr {α β : Type} {f g : α → Option β} : ∀ (l : List α), (∀ x ∈ l, f x = g x) → l.filterMap f = l.filterMap g
  | [], _ => rfl
  | x :: l, h => by
    rw [List.filterMap_cons, List.filterMap_cons, h x (.head _), fm_congr l fun y hy => h y (.tail _ hy)]
theorem zip_lookup : ∀ (names : List Str) (vs : List Value), names.Pairwise (· ≠ ·) → names.length = vs.length → names.filterMap (fun n => ((names.zip vs).lookup n).map (n, ·)) = names.zip vs
  | [], [], _, _ => rfl
  | [], _ :: _, _, h => by cases h
  | _ :: _, [], _, h => by cases h
  | n :: ns, v :: vs, hp, h => by
    rw [List.pairwise_cons] at hp
    have ih := zip_lookup ns vs hp.2 (by simpa using h)
    rw [List.zip_cons_cons, List.filterMap_cons, List.lookup_cons, beq_self_eq_true]
    dsimp only [Option.map_some]
    congr 1
    refine (fm_congr ns fun m hm => ?_).trans ih
    rw [List.lookup_cons, beq_false_of_ne (Ne.symm (hp.1 m hm))]
theorem zip_some : ∀ (names : List Str) (vs : List Value) (k : Nat), k ≤ vs.length → (names.take k).filter (fun n => ((names.zip vs).lookup n).isNone) = []
  | [], _, _, _ => by simp
  | _ :: _, _, 0, _ => by simp
  | n :: ns, [], k + 1, h => by simp at h
  | n :: ns, v :: vs, k + 1, h => by
    have ih := zip_some ns vs k (by simpa using h)
    rw [List.filter_eq_nil_iff] at ih ⊢
    intro m hm
    rw [List.zip_cons_cons, List.lookup_cons]
    by_cases e : m = n
    · subst e; simp
    · rw [beq_false_of_ne e]
      rcases List.mem_cons.mp (by simpa using hm) with q | q
      · exact absurd q e
      · exact ih m q
structure PlainPars (p : Arguments) (names : List Str) : Prop where
  pos : p.posonlyargs = []
  kwo : p.kwonlyargs = []
  va : p.vararg = none
  ka : p.kwarg = none
  named : p.args.map (·.arg) = names
  apart : names.Pairwise (· ≠ ·)
section
variable {M : Model} {A : Around} {E : Value → Shared → Prop} {s : Shared} {α β γ : Type} {Q : α → Shared → Prop}
theorem wp_neg {c : Prop} [Decidable c] {t e : Sem α} (h : ¬ c) (k : wpAny M A e Q E s) : wpAny M A (if c then t else e) Q E s := by rw [if_neg h]; exact k
theorem wp_if {c : Prop} [Decidable c] {t e : Sem α} (h : c → wpAny M A t Q E s) (k : ¬ c → wpAny M A e Q E s) : wpAny M A (if c then t else e) Q E s := by
  by_cases q : c
  · rw [if_pos q]; exact h q
  · rw [if_neg q]; exact k q
theorem wp_for {l l' : List β} {i : γ} {f : β → γ → Sem (ForInStep γ)} {g : γ → Sem α} (h : l = l') (k : wpAny M A (forIn l' i f >>= g) Q E s) : wpAny M A (forIn l i f >>= g) Q E s := h ▸ k
end
theorem not_missing {l : List Str} (h : l = []) (q : (!l.isEmpty) = true) : False := by rw [h] at q; exact nomatch q
noncomputable abbrev dropL (names : List Str) (dl : List Value) : List Value := dl.drop (dl.length - names.length)
noncomputable def addLast (names : List Str) (vs : List Value) : List (Str × Value) → List (Str × Value)
  | (last, d) :: _ => if ((names.zip vs).lookup last).isNone = true then names.zip vs ++ [(last, d)] else names.zip vs
  | [] => names.zip vs
theorem binds_gen {s : Shared} {fd : FuncData} {names : List Str} {vs : List Value} {M : Model} {A : Around} {E : Value → Shared → Prop} {Q : List (Str × Value) → Shared → Prop} {r : Option (Array Value)} {zl : List (Str × Value)} (hp : PlainPars fd.params names)
    (hd : ∀ (Q : Option (Array Value) → Shared → Prop), Q r s → wpAny M A (seqItems? fd.defaults) Q E s) (hle : vs.length ≤ names.length)
    (hm : (names.take (names.length - (dropL names (r.getD #[]).toList).length)).filter (fun n => ((names.zip vs).lookup n).isNone) = [])
    (hz : (names.drop (names.length - (dropL names (r.getD #[]).toList).length)).zip (dropL names (r.getD #[]).toList) = zl) (hz1 : zl = [] ∨ ∃ p, zl = [p])
    (hq : Q (names.filterMap fun n => ((addLast names vs zl).lookup n).map (n, ·)) s) : wpAny M A (bindArgs fd ⟨vs, []⟩) Q E s := by
  obtain ⟨_, _, ps, _, _, _, _, df, _, _, _, _, _, _, _⟩ := fd
  obtain ⟨po, as, va, kwo, _, ka, _⟩ := ps
  obtain ⟨h1, h2, h3, h4, h5, h6⟩ := hp
  obtain rfl : po = [] := h1
  obtain rfl : kwo = [] := h2
  obtain rfl : va = none := h3
  obtain rfl : ka = none := h4
  obtain rfl : as.map (·.arg) = names := h5
  have hd : ∀ (Q : Option (Array Value) → Shared → Prop), Q r s → wpAny M A (seqItems? df) Q E s := hd
  unfold bindArgs
  refine wpAny_bind (wpAny_pure ?_)
  refine wpAny_bind (hd _ ?_)
  refine wp_neg (fun q => absurd (of_decide_eq_true (Bool.and_eq_true_iff.mp q).1) (Nat.not_lt_of_le hle)) ?_
  have end_ : ∀ (l : List (Str × Value)), addLast (as.map fun x : Arg => x.arg) vs zl = l → Q (((as.map fun x : Arg => x.arg) ++ []).filterMap fun n => (l.lookup n).map (n, ·)) s := fun l e => by rw [← e, List.append_nil]; exact hq
  refine wp_neg (fun q => not_missing hm q) ?_
  refine wp_for (show _ = zl from hz) ?_
  rcases hz1 with hz1 | ⟨⟨last, d⟩, hz1⟩ <;> obtain rfl := hz1
  · refine wpAny_bind (wpAny_pure (wpAny_bind (wpAny_pure (wp_neg Bool.false_ne_true (wpAny_pure (end_ _ rfl))))))
  · rw [List.forIn_cons]
    refine wpAny_bind (wpAny_bind (wp_if (fun q => wpAny_pure (wpAny_pure (wpAny_bind (wpAny_pure (wp_neg Bool.false_ne_true (wpAny_pure (end_ _ (if_pos q)))))))) fun q => wpAny_pure (wpAny_pure (wpAny_bind (wpAny_pure (wp_neg Bool.false_ne_true (wpAny_pure (end_ _ (if_neg q)))))))))
theorem zip_short {names : List Str} {vs : List Value} {last : Str} : vs.length = names.length → (names ++ [last]).zip vs ++ [(last, Value.none)] = (names ++ [last]).zip (vs ++ [.none]) := by
  intro h
  rw [List.zip_append h.symm]
  have : (names ++ [last]).zip vs = names.zip vs := by
    have := List.zip_append (l₁ := names) (r₁ := [last]) (l₂ := vs) (r₂ := ([] : List Value)) h.symm
    simpa using this
  rw [this]
  rfl
theorem zip_last_none {names : List Str} {vs : List Value} {last : Str} (hp : (names ++ [last]).Pairwise (· ≠ ·)) (h : vs.length = names.length) : ((names ++ [last]).zip vs).lookup last = none := by
  have e : (names ++ [last]).zip vs = names.zip vs := by
    have := List.zip_append (l₁ := names) (r₁ := [last]) (l₂ := vs) (r₂ := ([] : List Value)) h.symm
    simpa using this
  rw [e, List.lookup_eq_none_iff]
  intro p hp'
  have h1 := List.of_mem_zip (a := p.1) (b := p.2) hp'
  have := (List.pairwise_append.mp hp).2.2 p.1 h1.1 last (by simp)
  simpa using Ne.symm this
theorem zip_last_some {names : List Str} {vs : List Value} {last : Str} (h : vs.length = (names ++ [last]).length) : (((names ++ [last]).zip vs).lookup last).isNone = false := by
  have := zip_some (names ++ [last]) vs (names ++ [last]).length (by omega)
  rw [List.filter_eq_nil_iff] at this
  have := this last (by rw [List.take_length]; simp)
  simpa using this
theorem binds_plain {s : Shared} {fd : FuncData} {names : List Str} {vs : List Value} (hp : PlainPars fd.params names) (hd : fd.defaults = .none) (hl : vs.length = names.length) : BindsTo s fd ⟨vs, []⟩ (names.zip vs) := by
  intro M A E Q hq
  have e0 : dropL names ((none : Option (Array Value)).getD #[]).toList = [] := List.drop_nil
  refine binds_gen (r := none) (zl := []) hp (fun Q q => by rw [hd]; exact wpAny_pure q) (Nat.le_of_eq hl) ?_ ?_ (.inl rfl) ?_
  · rw [e0]; exact zip_some names vs _ (by rw [hl]; exact Nat.sub_le _ _)
  · rw [e0, List.zip_nil_right]
  · exact (zip_lookup names vs hp.apart hl.symm).symm ▸ hq
theorem binds_dflt {s : Shared} {fd : FuncData} {names : List Str} {last : Str} {vs : List Value} {t : Addr} {o : Obj} {n : Nat} (hp : PlainPars fd.params (names ++ [last])) (hd : fd.defaults = .ref t) (ho : s.heap.get? t = some o) (hs : o.data = .seq #[.none] n) :
    (vs.length = (names ++ [last]).length → BindsTo s fd ⟨vs, []⟩ ((names ++ [last]).zip vs)) ∧ (vs.length = names.length → BindsTo s fd ⟨vs, []⟩ ((names ++ [last]).zip (vs ++ [.none]))) := by
  have hn : (names ++ [last]).length = names.length + 1 := List.length_append
  have e0 : dropL (names ++ [last]) ((some #[Value.none]).getD #[]).toList = [.none] := by
    show [Value.none].drop (1 - (names ++ [last]).length) = _
    rw [hn, show 1 - (names.length + 1) = 0 by omega]; rfl
  have go : ∀ (l : List (Str × Value)), names.length ≤ vs.length → vs.length ≤ names.length + 1 → (names ++ [last]).filterMap (fun n => ((addLast (names ++ [last]) vs [(last, .none)]).lookup n).map (n, ·)) = l → BindsTo s fd ⟨vs, []⟩ l := fun l h1 h2 e M A E Q hq => by
    refine binds_gen (r := some #[.none]) (zl := [(last, .none)]) hp (fun Q q => by rw [hd]; exact wpAny_seqItems ho hs q) (by rw [hn]; exact h2) ?_ ?_ (.inr ⟨_, rfl⟩) (e.symm ▸ hq)
    · rw [e0]; exact zip_some _ vs _ (by rw [hn]; exact h1)
    · rw [e0, hn, show names.length + 1 - [Value.none].length = names.length from rfl, List.drop_left]; rfl
  constructor
  · intro hl
    refine go _ (by omega) (by omega) ?_
    rw [show addLast (names ++ [last]) vs [(last, .none)] = (names ++ [last]).zip vs from if_neg (by rw [zip_last_some hl]; exact Bool.false_ne_true)]
    exact zip_lookup _ vs hp.apart hl.symm
  · intro hl
    refine go _ (by omega) (by omega) ?_
    rw [show addLast (names ++ [last]) vs [(last, .none)] = _ from if_pos (by rw [zip_last_none hp.apart hl]; rfl), zip_short hl]
    exact zip_lookup _ _ hp.apart (by rw [hn, List.length_append, hl]; rfl)
end Mine
namespace Mine
open PySem PySem.W PySem.Calls PyProof.Rows PySem.Spec PySem.SeqAt
structure FnOk (K : Frag) (a : Addr) (fi : FnI) (fd : FuncData) : Prop where
  keep : keepIn K (.ref a) = true
  at_ : ∃ oc od osl, K.lookup a = some ⟨oc, od, .func fd, osl⟩
  body : fd.body = .stmts fi.body
  scope : fd.scope = fi.scope
  glob : fd.globals = mainGlobals
  bi : fd.builtins = builtinsNs
  clo : fd.closure = []
  code : codeIn K fd.code fd.qualname = true
  co : fi.scope.isCoroutine = false
  gen : fi.scope.isGenerator = false
  kind : fi.scope.kind = .function
  pars : (fi.opt = 0 ∧ PlainPars fd.params fi.params ∧ fd.defaults = .none) ∨ (fi.opt = 1 ∧ ∃ names last t o n, fi.params = names ++ [last] ∧ PlainPars fd.params (names ++ [last]) ∧ fd.defaults = .ref t ∧ K.lookup t = some o ∧ o.data = .seq #[.none] n)
  kinds : ∀ x ∈ fi.params, fi.scope.names.lookup x = some .local ∨ fi.scope.names.lookup x = some .cell
  nofree : ∀ x ∈ fi.scope.names, x.2 ≠ .free
  nd : ((cellsFrom 0 fi.scope.names []).map (·.1)).Nodup
structure Binder (p : Str → Prop) (f : List (Str × Value) → (Str → Option Value) → Str → Option Value) : Prop where
  nil : ∀ m, f [] m = m
  cons : ∀ n v r m, ∃ m', f ((n, v) :: r) m = f r m' ∧ (∀ y, y ≠ n → m' y = m y) ∧ (p n → m' n = some v)
theorem binderL {k : Str → Option NameKind} : Binder (fun x => k x = some .local) (PySem.bindL k) :=
  ⟨fun _ => rfl, fun n v r m => ⟨_, rfl, fun y h => by split; exact if_neg h; rfl, fun h => by rw [if_pos h]; exact if_pos rfl⟩⟩
theorem binderC {k : Str → Option NameKind} : Binder (fun x => k x ≠ some .local) (PySem.bindC k) :=
  ⟨fun _ => rfl, fun n v r m => ⟨_, rfl, fun y h => by split; rfl; exact if_neg h, fun h => by rw [if_neg h]; exact if_pos rfl⟩⟩
section
variable {hb h : Heap} {σ : Sg} {nx : Nat} {p : Str → Prop} {f : List (Str × Value) → (Str → Option Value) → Str → Option Value}
theorem Binder.out (B : Binder p f) {x : Str} {xs : List Str} {vs : List Value} : ∀ m, x ∉ xs → f (xs.zip vs) m x = m x := by
  induction xs generalizing vs with
  | nil => exact fun m _ => congrFun (B.nil m) x
  | cons n xs ih =>
    intro m h
    cases vs with
    | nil => exact congrFun (B.nil m) x
    | cons v vs =>
      obtain ⟨m', e, h1, _⟩ := B.cons n v (xs.zip vs) m
      rw [List.zip_cons_cons, e, ih m' fun q => h (.tail _ q)]
      exact h1 x fun q => h (q ▸ .head _)
theorem Binder.get (B : Binder p f) {vs ds} (r : RVs hb h σ nx vs ds) : ∀ (xs : List Str), xs.Pairwise (· ≠ ·) → ∀ (m : Str → Option Value) (x : Str) (d : PV), (xs.zip ds).lookup x = some d → p x → ∃ cv, f (xs.zip vs) m x = some cv ∧ RV hb h σ nx cv d :=
  r.ind (M := fun vs ds => ∀ (xs : List Str), xs.Pairwise (· ≠ ·) → ∀ (m : Str → Option Value) (x : Str) (d : PV), (xs.zip ds).lookup x = some d → p x → ∃ cv, f (xs.zip vs) m x = some cv ∧ RV hb h σ nx cv d)
    (fun xs _ m x d e _ => by rw [List.zip_nil_right] at e; exact nomatch e) fun v d vs ds a _ ih xs hp m x d' e hx => by
      cases xs with
      | nil => exact nomatch e
      | cons n xs =>
        rw [List.pairwise_cons] at hp
        rw [List.zip_cons_cons, List.lookup_cons] at e
        obtain ⟨m', em, h1, h2⟩ := B.cons n v (xs.zip vs) m
        rw [List.zip_cons_cons, em]
        by_cases q : x = n
        · rw [q, beq_self_eq_true] at e
          exact ⟨v, by rw [q, B.out m' fun z => hp.1 _ z rfl, h2 (q ▸ hx)], Option.some.inj e ▸ a⟩
        · rw [beq_false_of_ne q] at e
          exact ih xs hp.2 m' x d' e hx
end
theorem upd_zip {xs : List Str} {ds : List PV} {x : Str} {d : PV} {ℓ : Loc} (h : ∀ y, ℓ y = (xs.zip ds).lookup y) (y : Str) : ℓ.upd x d y = ((x :: xs).zip (d :: ds)).lookup y := by
  rw [List.zip_cons_cons, List.lookup_cons]
  unfold Loc.upd
  by_cases hy : y = x
  · rw [hy, if_pos rfl, beq_self_eq_true]
  · rw [if_neg hy, beq_false_of_ne hy]; exact h y
theorem bindP_get {xs : List Str} : ∀ {ds : List PV} {k : Nat} {ℓ : Loc}, bindP xs ds k = some ℓ → ∃ j, j ≤ k ∧ ds.length + j = xs.length ∧ ∀ x, ℓ x = (xs.zip (ds ++ List.replicate j PV.none)).lookup x := by
  induction xs with
  | nil =>
    intro ds k ℓ e
    cases ds with
    | nil => exact ⟨0, Nat.zero_le _, rfl, fun x => congrFun (Option.some.inj e).symm x⟩
    | cons _ _ => exact nomatch e
  | cons x xs ih =>
    intro ds k ℓ e
    cases ds with
    | cons d ds =>
      obtain ⟨ℓ', e', rfl⟩ := Option.map_eq_some_iff.mp (show (bindP xs ds k).map (fun ℓ => ℓ.upd x d) = some ℓ from e)
      obtain ⟨j, h1, h2, h3⟩ := ih e'
      exact ⟨j, h1, by rw [List.length_cons, List.length_cons]; omega, upd_zip h3⟩
    | nil =>
      cases k with
      | zero => exact nomatch e
      | succ k =>
        obtain ⟨ℓ', e', rfl⟩ := Option.map_eq_some_iff.mp (show (bindP xs [] k).map (fun ℓ => ℓ.upd x .none) = some ℓ from e)
        obtain ⟨j, h1, h2, h3⟩ := ih e'
        exact ⟨j + 1, by omega, by rw [List.length_cons, List.length_nil] at *; omega, upd_zip h3⟩
theorem cellsFrom_has {x : Str} (names : List (Str × NameKind)) : ∀ (n : Nat) (acc : List (Str × Addr)), ((x, NameKind.cell) ∈ names ∨ (acc.lookup x).isSome = true) → ((cellsFrom n names acc).lookup x).isSome = true := by
  induction names with
  | nil => exact fun _ _ h => h.elim (fun q => nomatch q) id
  | cons y r ih =>
    obtain ⟨y, k⟩ := y
    intro n acc h
    unfold cellsFrom
    cases k
    case cell =>
      refine ih _ _ (h.elim (fun q => ?_) fun q => .inr ?_)
      · rcases List.mem_cons.mp q with q | q
        · right; rw [List.lookup_cons, (Prod.mk.inj q).1, beq_self_eq_true]; rfl
        · exact .inl q
      · rw [List.lookup_cons]
        cases x == y with
        | false => exact q
        | true => rfl
    all_goals exact ih _ _ (h.imp (fun q => (List.mem_cons.mp q).elim (fun z => absurd (Prod.mk.inj z).2 (by decide)) id) id)
theorem mem_of_look {α : Type} {x : Str} {k : α} {l : List (Str × α)} : l.lookup x = some k → (x, k) ∈ l := mem_of_lookup
noncomputable abbrev KtS (prog : Program) (w : World) (hb : Heap) (sc : Scope) (env : Env) (kr : KV) (Φ : Loc → PH → Prop) (σ : Sg) (H : PH) (s : Shared) (Q : Flow → Shared → Prop) : Prop :=
  (∀ σ' h' tk' ℓ' H', Φ ℓ' H' → Inv hb σ' H' h' → Rl (Own sc env) σ H s.heap σ' H' h' → Frm hb sc env ℓ' σ' H' h' → Q .next { s with heap := h', toks := tk' }) ∧
  (∀ σ' h' tk' v d H', kr d H' → Inv hb σ' H' h' → Rl (Own sc env) σ H s.heap σ' H' h' → RV hb h' σ' H'.next v d → Q (.ret v) { s with heap := h', toks := tk' })
noncomputable def SmS (prog : Program) (w : World) (hb : Heap) (A : Around) (sc : Scope) (env : Env) (t : Sem Flow) (ℓ : Loc) (m : KV → CM Loc) : Prop :=
  ∀ (σ : Sg) (H : PH) (s : Shared) (kr : KV) (Φ : Loc → PH → Prop), Inv hb σ H s.heap → Frm hb sc env ℓ σ H s.heap → m kr Φ H → ∀ (Q : Flow → Shared → Prop) (E : Value → Shared → Prop),
    KtS prog w hb sc env kr Φ σ H s Q → wpAny (model prog w) A t Q E s
end Mine
namespace Mine
open PySem PySem.W PySem.Calls PyProof.Rows PySem.Spec PySem.SeqAt
section
variable {prog : Program} {w : World} {hb : Heap} {A : Around} {K : Frag} {P : Pr} {a : Addr} {fi : FnI} {fd : FuncData}
theorem mut_lt {σ H h} (I : Inv hb σ H h) (b : Addr) : Mut σ H.next b → b < h.objs.size := fun ⟨i, hi, q⟩ =>
  let ⟨_, _, ro⟩ := I.dom i hi
  let ⟨⟨_, g1⟩, ⟨_, g2⟩⟩ := ro.here
  q.elim (fun q => q ▸ Heap.lt_size g1) fun q => q ▸ Heap.lt_size g2
theorem base_none {σ H h} (I : Inv hb σ H h) (b : Addr) (q : h.objs.size ≤ b) : hb.get? b = none := by
  cases e : hb.get? b with
  | none => rfl
  | some o => exact absurd (Heap.lt_size (I.keep _ _ e)) (Nat.not_lt_of_le q)
theorem FnOk.pair (O : FnOk K a fi fd) : fi.params.Pairwise (· ≠ ·) := by
  rcases O.pars with ⟨_, hp, _⟩ | ⟨_, _, _, _, _, _, hn, hp, _⟩
  · exact hp.apart
  · rw [hn]; exact hp.apart
theorem FnOk.binds (O : FnOk K a fi fd) {s : Shared} (hK : ∀ b o, K.lookup b = some o → s.heap.get? b = some o) {vs : List Value} {ds : List PV} {σ nx j} (p : RVs hb s.heap σ nx vs ds) (j1 : j ≤ fi.opt) (j2 : ds.length + j = fi.params.length) :
    ∃ vs', BindsTo s fd ⟨vs, []⟩ (fi.params.zip vs') ∧ RVs hb s.heap σ nx vs' (ds ++ List.replicate j PV.none) := by
  have hlen := p.length
  have p0 : RVs hb s.heap σ nx vs (ds ++ List.replicate 0 PV.none) := (List.append_nil ds).symm ▸ p
  rcases O.pars with ⟨h0, hp, hd⟩ | ⟨h1, names, last, t, o, n, hn, hp, hd, ht, hdat⟩
  · obtain rfl : j = 0 := by omega
    exact ⟨vs, binds_plain hp hd (by omega), p0⟩
  · obtain ⟨b1, b2⟩ := binds_dflt (vs := vs) hp hd (hK _ _ ht) hdat
    have hl : (names ++ [last]).length = names.length + 1 := List.length_append
    rw [hn] at j2 ⊢
    rcases Nat.lt_or_eq_of_le (h1 ▸ j1) with q | rfl
    · obtain rfl : j = 0 := by omega
      exact ⟨vs, b1 (by omega), p0⟩
    · exact ⟨vs ++ [.none], b2 (by omega), p.append (.cons .none .nil)⟩
theorem frm_entry {env : Env} {s : Shared} {ℓ : Loc} {σ H h1 tk1} {vs : List Value} {ds : List PV} (O : FnOk K a fi fd) (I : Inv hb σ H s.heap) (eS : env.scope = fi.scope) (eL : env.locals = s.heap.objs.size) (eC : env.cells = cellsFrom (s.heap.objs.size + 1) fi.scope.names [])
    (eG : env.globals = mainGlobals) (eB : env.builtins = builtinsNs) (p : RVs hb h1 σ H.next vs ds) (hℓ : ∀ x, ℓ x = (fi.params.zip ds).lookup x)
    (X : InCallC s env.locals (PySem.bindL env.kindOf (fi.params.zip vs) fun _ => none) env.cells (PySem.bindC env.kindOf (fi.params.zip vs) fun _ => none) { s with heap := h1, toks := tk1 }) : Frm hb fi.scope env ℓ σ H h1 := by
  have nd : (env.cells.map (·.1)).Nodup := by rw [eC, cellsFrom_names fi.scope.names _ 0 [] [] rfl]; exact O.nd
  have eK : ∀ x, env.kindOf x = fi.scope.names.lookup x := fun x => congrArg (fun c : Scope => c.names.lookup x) eS
  have nofree : ∀ x, env.kindOf x = some .cell ∨ env.kindOf x = some .free → env.kindOf x = some .cell := fun x q => q.resolve_right fun z => O.nofree _ (mem_of_look ((eK x).symm.trans z)) rfl
  have cells : ∀ x, env.kindOf x = some .cell → ∃ c, env.cells.lookup x = some c := fun x q => by
    rw [eC]; exact Option.isSome_iff_exists.mp (cellsFrom_has _ _ _ (.inl (mem_of_look ((eK x).symm.trans q))))
  refine ⟨⟨fun x k q => .inl ((eK x).trans q)⟩, by rw [eS]; exact O.kind, eG, eB, ⟨_, X.toInCall.ns, fun x v e1 e2 => binderL.get p _ O.pair _ x v ((hℓ x).symm.trans e1) e2⟩, fun x v e1 e2 => ?_, fun x q => cells x (nofree x q), fun x c e => ⟨_, X.cell x c (lookup_of_mem_nodup nd e)⟩, X.apart,
    fun m => absurd (mut_lt I _ m) (eL ▸ Nat.lt_irrefl _), base_none I _ (Nat.le_of_eq eL.symm), fun x c e => base_none I _ (Nat.le_of_lt (eL ▸ X.above x c e))⟩
  have e2 := nofree x e2
  obtain ⟨cv, hc1, hc2⟩ := (binderC (k := env.kindOf)).get p _ O.pair (fun _ => none) x v ((hℓ x).symm.trans e1) (by rw [e2]; decide)
  obtain ⟨c, hc⟩ := cells x e2
  exact ⟨c, cv, hc, hc1 ▸ X.cell x c hc, hc2⟩
noncomputable abbrev BodyOk (prog : Program) (w : World) (hb : Heap) (A : Around) (r : Lv) (a : Addr) (fi : FnI) (fd : FuncData) : Prop :=
  ∀ L ℓ, SmS prog w hb (A.deeper (callEnvC fd L a)) fi.scope (callEnvC fd L a) (execs fi.body (callEnvC fd L a)) ℓ (exL (r.ex fi.scope) fi.body ℓ)
theorem code_callFn (hK : K.In hb) (hlim : hb.NoLimit) {r : Lv} {vs : List Value} {ds : List PV} (O : FnOk K a fi fd) (hroom : A.depth < recursionLimit) (Hb : BodyOk prog w hb A r a fi fd)
    {σ : Sg} {H : PH} {s : Shared} {Φ : KV} (I : Inv hb σ H s.heap) (p : RVs hb s.heap σ H.next vs ds) (e : callFn r fi ds Φ H) {R : Result → Shared → Prop}
    (k : ∀ v σ' h' tk' b H', Φ b H' → Inv hb σ' H' h' → Rl NoX σ H s.heap σ' H' h' → RV hb h' σ' H'.next v b → R (.ok (.ret v)) { s with heap := h', toks := tk' }) : codeAny (model prog w) A (.call (.ref a) ⟨vs, []⟩) R s := by
  unfold callFn at e
  cases hℓ : bindP fi.params ds fi.opt with
  | none => rw [hℓ] at e; exact e.elim
  | some ℓ =>
    rw [hℓ] at e
    obtain ⟨oc, od, osl, ho⟩ := O.at_
    have hK' := hK.keeps I.keep
    obtain ⟨j, j1, j2, j3⟩ := bindP_get hℓ
    obtain ⟨vs', hbinds, hvs⟩ := O.binds hK' p j1 j2
    refine codeAny_call_function hroom (hK' _ _ ho) rfl (by rw [O.scope]; exact O.co) (by rw [O.scope]; exact O.gen) O.body (codeRec_of hK' O.code) (hbinds _ _ _ _ ?_)
    rw [O.clo]
    refine wpAny_newFunctionEnv_cells (by rw [O.scope]; exact O.kind) (fun y hy => ?_) fun env he s' X => ?_
    · rw [O.scope]
      exact (O.kinds _ (List.of_mem_zip (a := y.1) (b := y.2) hy).1).imp id fun q => ⟨q, cellsFrom_has _ _ _ (.inl (mem_of_look q))⟩
    · subst he
      obtain ⟨h1, tk1, rfl, kk⟩ := X.done
      refine ⟨(hlim.keeps I.keep).keeps kk, codeAny_func ?_⟩
      have R1 : Rl NoX σ H s.heap σ H h1 := .all kk
      have eC : (callEnvC fd s.heap.objs.size a).cells = cellsFrom (s.heap.objs.size + 1) fi.scope.names [] := congrArg (fun c : Scope => cellsFrom _ c.names []) O.scope
      have F : Frm hb fi.scope (callEnvC fd s.heap.objs.size a) ℓ σ H h1 := frm_entry O I O.scope rfl eC O.glob O.bi (hvs.up R1 I) j3 X
      have hown : ∀ b o, s.heap.get? b = some o → Own fi.scope (callEnvC fd s.heap.objs.size a) b → False := fun b o g q => by
        have := Heap.lt_size g
        rcases q with q | ⟨x, q, _⟩
        · exact absurd ((show b = s.heap.objs.size from q) ▸ this) (Nat.lt_irrefl _)
        · exact absurd (Nat.lt_trans (X.above x b q) this) (Nat.lt_irrefl _)
      exact Hb s.heap.objs.size ℓ σ H { s with heap := h1, toks := tk1 } _ _ (I.extAll kk) F e _ _
        ⟨fun σ' h' tk' ℓ' H' φ I' R' F' => k .none σ' h' tk' .none H' φ I' (R'.drop (fun b o g _ => kk _ _ g) hown) .none, fun σ' h' tk' v d H' φ I' R' rv => k v σ' h' tk' d H' φ I' (R'.drop (fun b o g _ => kk _ _ g) hown) rv⟩
theorem sm_callFn (hK : K.In hb) (hlim : hb.NoLimit) {r : Lv} {vs : List Value} {ds : List PV} (O : FnOk K a fi fd) (hroom : A.depth < recursionLimit) (Hb : BodyOk prog w hb A r a fi fd) :
    Sm prog w hb A (fun σ H h => IsVs hb σ H h vs ds) (call (.ref a) vs) (IsV hb) (callFn r fi ds) :=
  fun σ H s Φ I p e Q E k => wpAny_call (code_callFn hK hlim O hroom Hb I p e fun v σ' h' tk' b H' φ I' R' rv => k v σ' h' tk' b H' φ I' R' rv)
end
end Mine
namespace Mine
open PySem PySem.W PySem.Calls PyProof.Rows PySem.Spec PySem.SeqAt
section
variable {prog : Program} {w : World} {hb : Heap} {A : Around} {K : Frag} {P : Pr}
theorem Inv.addInst {σ H h} (I : Inv hb σ H h) (C : Addr) : ∃ σ', Inv hb σ' (H.push (.inst C [])) ((h.push emptyDict).push (instObj C h.objs.size)) ∧ Rl NoX σ H h σ' (H.push (.inst C [])) ((h.push emptyDict).push (instObj C h.objs.size)) ∧
    RV hb ((h.push emptyDict).push (instObj C h.objs.size)) σ' (H.push (.inst C [])).next (.ref (h.objs.size + 1)) (.obj H.next) := by
  have k1 : ∀ b o, h.get? b = some o → ((h.push emptyDict).push (instObj C h.objs.size)).get? b = some o := fun b o e => Heap.get?_push_of_some _ (Heap.get?_push_of_some _ e)
  have h1 : ((h.push emptyDict).push (instObj C h.objs.size)).get? (h.objs.size + 1) = some (instObj C h.objs.size) := by heap_get
  have h2 : ((h.push emptyDict).push (instObj C h.objs.size)).get? h.objs.size = some emptyDict := by heap_get
  obtain ⟨J1, J2⟩ := I.add k1 (a := h.objs.size + 1) (d := h.objs.size) (get_size_none' _ (Nat.le_succ _)) (get_size_none _) (o := .inst C []) ⟨[], 0, h1, h2, trivial⟩
  exact ⟨_, J1, J2, by
    have := RV.obj (hb := hb) (h := (h.push emptyDict).push (instObj C h.objs.size)) (σ := sgUpd σ H.next (h.objs.size + 1, h.objs.size)) (nx := H.next + 1) (i := H.next) (Nat.lt_succ_self _)
    rw [sgUpd_at] at this
    exact this⟩
noncomputable abbrev MakeA (A : Around) (C : Addr) (vs : List Value) : Around := A.under (.builtin "type.__call__" ⟨.ref C :: vs, []⟩)
theorem sm_make (hK : K.In hb) (hlim : hb.NoLimit) {r : Lv} {C : Addr} {ci : ClsI} {fi : FnI} {fd : FuncData} {vs : List Value} {ds : List PV} (hC : ClsOk K C ci) (O : FnOk K ci.init fi fd)
    (hroom : (MakeA A C vs).depth < recursionLimit) (Hb : BodyOk prog w hb (MakeA A C vs) r ci.init fi fd) :
    Sm prog w hb A (fun σ H h => IsVs hb σ H h vs ds) (call (.ref C) vs) (IsV hb) (makeC r C fi ds) := by
  intro σ H s Φ I p e Q E k
  have p : RVs hb s.heap σ H.next vs ds := p
  obtain ⟨hh, g, dr, t, os⟩ := s
  have hK' := hK.keeps I.keep
  obtain ⟨σ1, J1, J2, rx⟩ := I.addInst C
  refine wpAny_call (make_core (makes_of hK' hC.make) (looks_findIn hK' hC.init.1) (fun self => bind_fn hK' self hC.init.2) (.inl rfl) ?_)
  refine code_callFn hK hlim O hroom Hb (σ := σ1) (H := H.push (.inst C [])) (s := ⟨(hh.push emptyDict).push (instObj C hh.objs.size), g, dr, t, os⟩) J1 (.cons rx (p.up J2 I)) e fun u σ' h' tk' v H' φ I' R' rv => ?_
  cases v with
  | none => exact ⟨RV.inv rv ▸ rfl, k _ σ' h' tk' _ H' φ I' (J2.trans R') (rx.up R' J1)⟩
  | _ => exact φ.elim
end
end Mine
namespace Mine
open PySem PySem.W PySem.Calls PyProof.Rows PySem.Spec PySem.SeqAt
section
variable {hb : Heap} {sc : Scope} {env : Env} {ℓ : Loc} {σ : Sg} {H : PH} {h h' : Heap} {a b : Addr}
theorem cell_data {v} (x : h.IsCell b v) {o : Obj} (e : h.get? b = some o) : NotVal o := by
  obtain ⟨o', ho, hd⟩ := x
  obtain rfl := Option.some.inj (ho.symm.trans e)
  exact ⟨fun _ vs n q => (nomatch hd.symm.trans q), fun _ z q => (nomatch hd.symm.trans q)⟩
theorem ns_data {m : Str → Option Value} (x : h.Ns b m) {o : Obj} (e : h.get? b = some o) : NotVal o := by
  obtain ⟨o', es, ep, ho, hd, _⟩ := x
  obtain rfl := Option.some.inj (ho.symm.trans e)
  exact ⟨fun _ vs n q => (nomatch hd.symm.trans q), fun _ z q => (nomatch hd.symm.trans q)⟩
theorem cell_ne_ns {v} {m : Str → Option Value} (x : h.IsCell b v) (y : h.Ns a m) : b ≠ a := by
  intro e
  subst e
  obtain ⟨o', ho, hd⟩ := x
  obtain ⟨o, es, ep, ho', hd', _⟩ := y
  obtain rfl := Option.some.inj (ho.symm.trans ho')
  exact nomatch hd.symm.trans hd'
theorem Frm.allData (F : Frm hb sc env ℓ σ H h) : ∀ b o, h.get? b = some o → OwnAll env b → NotVal o := fun b o e q =>
  q.elim (fun q => let ⟨_, hn, _⟩ := F.ns; ns_data hn (q ▸ e)) fun ⟨x, q⟩ => let ⟨_, hv⟩ := F.cellAt x b q; cell_data hv e
theorem Frm.ownData (F : Frm hb sc env ℓ σ H h) : ∀ b o, h.get? b = some o → Own sc env b → NotVal o := fun b o e q => F.allData b o e q.all
theorem Frm.ownMut (F : Frm hb sc env ℓ σ H h) (I : Inv hb σ H h) : ∀ b, Own sc env b → ¬ Mut σ H.next b := fun b q =>
  q.elim (fun q => q ▸ F.own) fun ⟨x, q, _⟩ => let ⟨_, hv⟩ := F.cellAt x b q; I.notMut_cell hv
theorem Frm.ownBase (F : Frm hb sc env ℓ σ H h) : ∀ b, Own sc env b → hb.get? b = none := fun b q => q.elim (fun q => q ▸ F.base) fun ⟨x, q, _⟩ => F.cbase x b q
section
variable {σ' : Sg} {H' : PH}
theorem Frm.keepsO (F : Frm hb sc env ℓ σ H h) (I : Inv hb σ H h) (r : Rl (Own sc env) σ H h σ' H' h') : Keeps2 h σ H.next h' σ' H'.next := r.keeps2 I F.ownData
theorem Frm.upO {v d} (F : Frm hb sc env ℓ σ H h) (I : Inv hb σ H h) (r : Rl (Own sc env) σ H h σ' H' h') (x : RV hb h σ H.next v d) : RV hb h' σ' H'.next v d := x.mono (F.keepsO I r)
theorem Frm.upsO {v d} (F : Frm hb sc env ℓ σ H h) (I : Inv hb σ H h) (r : Rl (Own sc env) σ H h σ' H' h') (x : RVs hb h σ H.next v d) : RVs hb h' σ' H'.next v d := x.mono (F.keepsO I r)
theorem Rl.own (r : Rl NoX σ H h σ' H' h') : Rl (Own sc env) σ H h σ' H' h' := r.weak fun _ x => x.elim
end
theorem Frm.turned (F : Frm hb sc env ℓ σ H h) (I : Inv hb σ H h) (ha : Own sc env a) (hs : Heap.SameBut a h h') : Inv hb σ H h' ∧ Rl (Own sc env) σ H h σ H h' := by
  have x : Ext (fun b => b = a) h h' := ⟨fun b o e n => (hs.2 b n).trans e⟩
  exact ⟨I.ext x (fun b q => q ▸ F.ownMut I a ha) (fun b q => q ▸ F.ownBase a ha) (fun b o e q => F.ownData b o e (q ▸ ha)), (Rl.of_ext x).weak fun b q => q ▸ ha⟩
theorem upd_inv {x y : Str} {d u : PV} (e : ℓ.upd x d y = some u) : (y = x ∧ d = u) ∨ (y ≠ x ∧ ℓ y = some u) := by
  unfold Loc.upd at e
  by_cases hy : y = x
  · rw [if_pos hy] at e; exact .inl ⟨hy, Option.some.inj e⟩
  · rw [if_neg hy] at e; exact .inr ⟨hy, e⟩
theorem Frm.storeLocal {x : Str} {v : Value} {d : PV} {m : Str → Option Value} (F : Frm hb sc env ℓ σ H h) (I : Inv hb σ H h) (hk : env.kindOf x = some .local) (hs : Heap.SameBut env.locals h h')
    (hm : ∀ y u, ℓ y = some u → env.kindOf y = some .local → ∃ cv, m y = some cv ∧ RV hb h σ H.next cv u) (hn : h'.Ns env.locals (fun y => if y = x then some v else m y)) (rv : RV hb h σ H.next v d) :
    Inv hb σ H h' ∧ Rl (Own sc env) σ H h σ H h' ∧ Frm hb sc env (ℓ.upd x d) σ H h' := by
  obtain ⟨J1, J2⟩ := F.turned I (.inl rfl) hs
  have k := F.keepsO I J2
  obtain ⟨m0, hn0, _⟩ := F.ns
  have cell : ∀ {c u}, h.IsCell c u → h'.IsCell c u := fun {c u} q => q.sameBut hs (cell_ne_ns q hn0)
  refine ⟨J1, J2, F.sc, F.kind, F.glob, F.bi, ⟨_, hn, fun y u e q => ?_⟩, fun y u e q => ?_, F.cells, fun y c e => let ⟨u, hu⟩ := F.cellAt y c e; ⟨u, cell hu⟩, F.apart, F.own, F.base, F.cbase⟩
  · rcases upd_inv e with ⟨hy, e⟩ | ⟨hy, e⟩
    · exact ⟨v, if_pos hy, e ▸ rv.mono k⟩
    · obtain ⟨cv, h1, h2⟩ := hm y u e q
      exact ⟨cv, (if_neg hy).trans h1, h2.mono k⟩
  · rcases upd_inv e with ⟨hy, e⟩ | ⟨hy, e⟩
    · rw [hy, hk] at q; exact q.elim (fun q => nomatch q) fun q => nomatch q
    · obtain ⟨c, cv, h1, h2, h3⟩ := F.cell y u e q
      exact ⟨c, cv, h1, cell h2, h3.mono k⟩
theorem Frm.storeCell {x : Str} {v : Value} {d : PV} {c : Addr} (F : Frm hb sc env ℓ σ H h) (I : Inv hb σ H h) (hk0 : sc.names.lookup x = some .cell) (hk : env.kindOf x = some .cell) (hc : env.cells.lookup x = some c) (hs : Heap.SameBut c h h')
    (hn : h'.IsCell c (some v)) (rv : RV hb h σ H.next v d) :
    Inv hb σ H h' ∧ Rl (Own sc env) σ H h σ H h' ∧ Frm hb sc env (ℓ.upd x d) σ H h' := by
  have hcm : (x, c) ∈ env.cells := mem_of_look hc
  obtain ⟨J1, J2⟩ := F.turned I (.inr ⟨x, hcm, hk0⟩) hs
  have k := F.keepsO I J2
  obtain ⟨m0, hn0, hm0⟩ := F.ns
  obtain ⟨u0, hu0⟩ := F.cellAt x c hcm
  refine ⟨J1, J2, F.sc, F.kind, F.glob, F.bi, ⟨_, hn0.sameBut hs (Ne.symm (cell_ne_ns hu0 hn0)), fun y u e q => ?_⟩, fun y u e q => ?_, F.cells, fun y c' e => ?_, F.apart, F.own, F.base, F.cbase⟩
  · rcases upd_inv e with ⟨hy, e⟩ | ⟨hy, e⟩
    · rw [hy, hk] at q; exact nomatch q
    · obtain ⟨cv, h1, h2⟩ := hm0 y u e q
      exact ⟨cv, h1, h2.mono k⟩
  · rcases upd_inv e with ⟨hy, e⟩ | ⟨hy, e⟩
    · exact ⟨c, v, hy ▸ hc, hn, e ▸ rv.mono k⟩
    · obtain ⟨c', cv, h1, h2, h3⟩ := F.cell y u e q
      exact ⟨c', cv, h1, h2.sameBut hs fun z => hy (name_of_addr F.apart (z ▸ mem_of_look h1) hcm), h3.mono k⟩
  · obtain ⟨u, hu⟩ := F.cellAt y c' e
    by_cases q : c' = c
    · exact ⟨_, q ▸ hn⟩
    · exact ⟨u, hu.sameBut hs q⟩
end
noncomputable def SmU (prog : Program) (w : World) (hb : Heap) (A : Around) (sc : Scope) (env : Env) (P : Pr) (t : Sem Unit) (ℓ : Loc) (m : CM Loc) : Prop :=
  ∀ (σ : Sg) (H : PH) (s : Shared) (Φ : Loc → PH → Prop), Inv hb σ H s.heap → Frm hb sc env ℓ σ H s.heap → P σ H s.heap → m Φ H → ∀ (Q : Unit → Shared → Prop) (E : Value → Shared → Prop),
    (∀ σ' h' tk' ℓ' H', Φ ℓ' H' → Inv hb σ' H' h' → Rl (Own sc env) σ H s.heap σ' H' h' → Frm hb sc env ℓ' σ' H' h' → Q () { s with heap := h', toks := tk' }) → wpAny (model prog w) A t Q E s
section
variable {prog : Program} {w : World} {hb : Heap} {A : Around} {K : Frag} {sc : Scope} {env : Env} {ℓ : Loc} {P P' : Pr} {t : Sem Unit} {m : CM Loc}
theorem bindN_inv {x : Str} {d : PV} {ℓ' : Loc} (e : bindN sc ℓ x d = some ℓ') : okNB sc x = true ∧ ℓ' = ℓ.upd x d := by
  unfold bindN at e
  unfold okNB
  cases hk : sc.names.lookup x with
  | none => rw [hk] at e; exact nomatch e
  | some kd =>
    rw [hk] at e
    cases kd with
    | «local» => exact ⟨rfl, (Option.some.inj e).symm⟩
    | cell => exact ⟨rfl, (Option.some.inj e).symm⟩
    | _ => exact nomatch e
theorem su_store {x : Str} {v : Value} {d : PV} (ok : okNB sc x = true) : SmU prog w hb A sc env (fun σ H h => IsV hb σ H h v d) (bindName env x v) ℓ (pureC (ℓ.upd x d)) := by
  intro σ H s Φ I F p e Q E k
  unfold bindName
  refine wpAny_bind (wpAny_holding (wpAny_point (wpAny_bind ?_)))
  rcases Bool.or_eq_true_iff.mp ok with hk | hk <;> have hk := eq_of_beq hk
  · have hq : env.kindOf x = some .local := (F.sc.at_ x _ hk).resolve_right fun q => nomatch q.1
    obtain ⟨m, hn, hm⟩ := F.ns
    refine wpAny_storeName_local hq hn (fun h' h1 h2 => wpAny_point ?_) (by rw [F.kind]; rfl)
    obtain ⟨J1, J2, J3⟩ := F.storeLocal I hq h2 hm h1 p
    exact k σ h' _ _ _ e J1 J2 J3
  · have hq : env.kindOf x = some .cell := (F.sc.at_ x _ hk).resolve_right fun q => nomatch q.1
    obtain ⟨c, hc⟩ := F.cells x (.inl hq)
    obtain ⟨u, hu⟩ := F.cellAt x c (mem_of_look hc)
    refine wpAny_storeName_cell F.kind hq hc hu fun h' h1 h2 => wpAny_point ?_
    obtain ⟨J1, J2, J3⟩ := F.storeCell I hk hq hc h2 h1 p
    exact k σ h' s.toks _ _ e J1 J2 J3
theorem SmU.at {q : Pos} (x : SmU prog w hb A sc env P t ℓ m) : SmU prog w hb A sc env P (standAt q >>= fun _ => t) ℓ m :=
  fun σ H s Φ I F p e Q E k => wpAny_bind (wpAny_standAt (x σ H s Φ I F p e Q E k))
theorem SmU.holding {vs : List Value} (x : SmU prog w hb A sc env P t ℓ m) : SmU prog w hb A sc env P (holding vs t) ℓ m :=
  fun σ H s Φ I F p e Q E k => wpAny_holding (x σ H s Φ I F p e Q E k)
theorem SmU.fail : SmU prog w hb A sc env P t ℓ failC := fun _ _ _ _ _ _ _ e => e.elim
theorem SmU.imp (x : SmU prog w hb A sc env P t ℓ m) (i : ∀ σ H h, P' σ H h → P σ H h) : SmU prog w hb A sc env P' t ℓ m :=
  fun σ H s Φ I F p e Q E k => x σ H s Φ I F (i _ _ _ p) e Q E k
theorem SmU.weak {m' : CM Loc} (x : SmU prog w hb A sc env P t ℓ m) (i : ∀ Φ H, m' Φ H → m Φ H) : SmU prog w hb A sc env P t ℓ m' :=
  fun σ H s Φ I F p e Q E k => x σ H s Φ I F p (i _ _ e) Q E k
theorem su_Name {x : Str} {q : Pos} {v : Value} {d : PV} : SmU prog w hb A sc env (fun σ H h => IsV hb σ H h v d) (assign (.Name x q) env v) ℓ (optC (bindN sc ℓ x d)) := by
  rw [arm_assign_Name]
  cases e : bindN sc ℓ x d with
  | none => exact SmU.fail
  | some ℓ' => exact (bindN_inv e).2 ▸ SmU.at (su_store (bindN_inv e).1)
theorem SmU.of_sm {c : CM Unit} (x : Sm prog w hb A (fun σ H h => Frm hb sc env ℓ σ H h ∧ P σ H h) t IsU c) : SmU prog w hb A sc env P t ℓ (bindC c fun _ => pureC ℓ) :=
  fun σ H s Φ I F p e Q E k => x σ H s _ I ⟨F, p⟩ e Q E fun _ σ1 h1 tk1 _ H1 φ I1 R1 _ => k σ1 h1 tk1 ℓ H1 φ I1 R1.own (Frm.stb _ _ _ _ _ _ I R1 I1 F)
end
end Mine
namespace Mine
open PySem PySem.W PySem.Calls PyProof.Rows PySem.Spec PySem.SeqAt
section
variable {prog : Program} {w : World} {A : Around} {E : Value → Shared → Prop} {s : Shared}
theorem draw_lst {it t : Addr} {items : Array Value} (hne : t ≠ it) : ∀ (n i : Nat) (s : Shared) (Q : List Value → Shared → Prop), s.heap.IsListIter it t i → s.heap.IsList t items → i + n ≤ items.size →
    (∀ h', h'.IsListIter it t (i + n) → Heap.SameBut it s.heap h' → Q ((items.toList.drop i).take n) { s with heap := h' }) → wpAny (model prog w) A (draw (.ref it) n) Q E s
  | 0, i, s, Q, hit, _, _, hQ => by
    show wpAny _ _ (pure []) Q E s
    exact wpAny_pure (by simpa using hQ s.heap hit (Heap.SameBut.refl ..))
  | n + 1, i, s, Q, hit, ht, hle, hQ => by
    have hlt : i < items.size := by omega
    show wpAny _ _ (pyNext (.ref it) >>= _) Q E s
    refine wpAny_bind (wpAny_pyNext_list_item hit ht (x := items[i]) (by simp [hlt]) fun h₁ hit₁ hs₁ => ?_)
    refine wpAny_bind (wpAny_holding (draw_lst hne n (i + 1) _ _ hit₁ (ht.extBut hs₁.extBut hne) (by omega) fun h₂ hit₂ hs₂ => wpAny_pure ?_))
    have hd : items.toList.drop i = items[i] :: items.toList.drop (i + 1) := by simp [List.drop_eq_getElem_cons, hlt]
    have := hQ h₂ (by rw [show i + (n + 1) = i + 1 + n by omega]; exact hit₂) (hs₁.trans hs₂)
    rw [hd, List.take_succ_cons] at this
    exact this
theorem unpack_lst {t : Addr} {items : Array Value} {Q : List Value → Shared → Prop} (hh : A.handled = none) (ht : s.heap.IsList t items)
    (hQ : ∀ h', Heap.ExtBut s.heap.objs.size s.heap h' → Q items.toList { s with heap := h' }) : wpAny (model prog w) A (unpackItems (.ref t) items.size none) Q E s := by
  have hlt : t ≠ s.heap.objs.size := by obtain ⟨o, ho, _⟩ := id ht; exact Nat.ne_of_lt (Heap.lt_size ho)
  unfold unpackItems
  refine wpAny_bind ?_
  unfold notIterableAtAll
  refine wpAny_bind (wpAny_specialOf ht.typeIs slot_list_iter.lookup ?_)
  refine wpAny_pure ?_
  simp only [Bool.false_eq_true, if_false]
  refine wpAny_bind (wpAny_holding (wpAny_pyIter_list ht ?_))
  refine wpAny_bind (wpAny_holding (draw_lst hlt items.size 0 _ _ ⟨_, Heap.get?_push_size _ rfl, rfl, rfl⟩ (ht.push _) (by omega) fun h₁ hit₁ hs₁ => ?_))
  have hall : List.take items.size (List.drop 0 items.toList) = items.toList := by
    rw [List.drop_zero]; exact List.take_of_length_le (by simp)
  rw [hall]
  rw [if_neg (by simp)]
  have ht₁ : h₁.IsList t items := (ht.push _).extBut hs₁.extBut hlt
  refine wpAny_bind (wpAny_holding (wpAny_pyNext_list_end hh hit₁ ht₁ (by simp) fun h₂ he₂ => ?_))
  simp only [Option.isSome_none, Bool.false_eq_true, if_false]
  refine wpAny_pure (hQ h₂ fun b o hb e => he₂ b o hb (hs₁.extBut b o hb (Heap.get?_push_of_some _ e)))
end
section
variable {prog : Program} {w : World} {hb : Heap} {A : Around} {K : Frag} {sc : Scope} {env : Env} {ℓ : Loc} {P : Pr}
theorem ext_size {h h' : Heap} (x : Heap.ExtBut h.objs.size h h') : ∀ b o, h.get? b = some o → h'.get? b = some o := fun b o e => x b o (Nat.ne_of_lt (Heap.lt_size e)) e
theorem unpack_items {σ H} {s : Shared} {E : Value → Shared → Prop} {v : Value} {d : PV} {n : Nat} {Φ : List PV → PH → Prop} {Q : List Value → Shared → Prop} (hh : A.handled = none) (I : Inv hb σ H s.heap) (p : RV hb s.heap σ H.next v d) (e : ItemsC d Φ H) (hn : ∀ l, Φ l H → l.length = n)
    (k : ∀ vs h' l, (∀ b o, s.heap.get? b = some o → h'.get? b = some o) → RVs hb s.heap σ H.next vs l → Φ l H → Q vs { s with heap := h' }) : wpAny (model prog w) A (unpackItems v n none) Q E s := by
  cases e with
  | tup l h e =>
    subst h
    obtain ⟨a, o, vs, m, ev, a1, a2, a3, r⟩ := RV.inv p
    have := r.length
    rw [Array.length_toList] at this
    obtain rfl : n = vs.size := by rw [← hn l e, this]
    rw [ev]
    exact unpackItems_tuple hh ⟨_, a1, a2, _, a3⟩ fun h' x => k _ h' l (ext_size x) r e
  | list j l h g e =>
    subst h
    rw [(RV.inv p).1]
    obtain ⟨_, us, m, o1, _, f⟩ := I.list g
    obtain rfl : n = us.toArray.size := by rw [List.size_toArray, ← hn l e, f.length]
    exact unpack_lst hh (listOf_isList o1) fun h' x => k _ h' l (ext_size x) f e
theorem su_names {es : List Expr} : es.all isNameE = true → (namesOf es).all (okNB sc) = true → ∀ {vs : List Value} {ds : List PV} {ℓ : Loc},
    SmU prog w hb A sc env (fun σ H h => IsVs hb σ H h vs ds) (assignInOrder ((assignEach es env).map (·.2)) vs) ℓ (optC (bindS (namesOf es) ℓ ds)) := by
  induction es with
  | nil =>
    intro _ _ vs ds ℓ
    cases ds with
    | nil => exact fun σ H s Φ I F p e Q E k => assignInOrder_nil (k σ s.heap s.toks ℓ H e I .refl F)
    | cons _ _ => exact SmU.fail
  | cons e0 es ih =>
    intro h1 h2 vs ds ℓ
    rw [List.all_cons, Bool.and_eq_true] at h1
    cases e0 with
    | Name x q =>
      have h2 := Bool.and_eq_true_iff.mp (show (okNB sc x && (namesOf es).all (okNB sc)) = true from h2)
      cases ds with
      | nil => exact SmU.fail
      | cons d ds =>
        intro σ H s Φ I F p e Q E k
        obtain ⟨v, vs', rfl, a, r⟩ := RVs.inv p
        show wpAny _ _ (assignInOrder (assign (.Name x q) env :: (assignEach es env).map (·.2)) (v :: vs')) _ _ _
        refine assignInOrder_cons ?_
        rw [arm_assign_Name]
        refine (SmU.at (su_store h2.1)) σ H s (fun ℓ' H' => optC (bindS (namesOf es) ℓ' ds) Φ H') I F a e _ E fun σ1 h1' tk1 ℓ1 H1 φ I1 R1 F1 => ?_
        exact ih h1.2 h2.2 σ1 H1 { s with heap := h1', toks := tk1 } Φ I1 F1 (F.upsO I R1 r) φ Q E fun σ2 h2' tk2 ℓ2 H2 φ2 I2 R2 F2 => k σ2 h2' tk2 ℓ2 H2 φ2 I2 (R1.trans R2) F2
    | _ => exact nomatch h1.1
end
end Mine
namespace Mine
open PySem PySem.W PySem.Calls PyProof.Rows PySem.Spec PySem.SeqAt
section
variable {prog : Program} {w : World} {hb : Heap} {A : Around} {K : Frag} {sc : Scope} {env : Env} {ℓ : Loc} {P : Pr}
theorem unp_inv {l : List PV} {H : PH} {p : Prop} : (∀ K, unp2 l K H → (∀ a b, l = [a, b] → K a b H → p) → p) ∧ (∀ K, unp3 l K H → (∀ a b c, l = [a, b, c] → K a b c H → p) → p) ∧ (∀ K, unp4 l K H → (∀ a b c d, l = [a, b, c, d] → K a b c d H → p) → p) := by
  cases l with
  | nil => exact ⟨fun _ e => e.elim, fun _ e => e.elim, fun _ e => e.elim⟩
  | cons a l =>
    cases l with
    | nil => exact ⟨fun _ e => e.elim, fun _ e => e.elim, fun _ e => e.elim⟩
    | cons b l =>
      cases l with
      | nil => exact ⟨fun _ e k => k _ _ rfl e, fun _ e => e.elim, fun _ e => e.elim⟩
      | cons c l =>
        cases l with
        | nil => exact ⟨fun _ e => e.elim, fun _ e k => k _ _ _ rfl e, fun _ e => e.elim⟩
        | cons d l =>
          cases l with
          | nil => exact ⟨fun _ e => e.elim, fun _ e => e.elim, fun _ e k => k _ _ _ _ rfl e⟩
          | cons _ _ => exact ⟨fun _ e => e.elim, fun _ e => e.elim, fun _ e => e.elim⟩
theorem bindX_inv {xs : List Str} {l : List PV} {H : PH} {Φ : Loc → PH → Prop} (e : bindX xs ℓ l Φ H) : l.length = xs.length ∧ optC (bindS xs ℓ l) Φ H := by
  cases xs with
  | nil => exact e.elim
  | cons x xs =>
    cases xs with
    | nil => exact e.elim
    | cons y xs =>
      cases xs with
      | nil => exact unp_inv.1 _ e fun a b h q => by rw [h]; exact ⟨rfl, q⟩
      | cons z xs =>
        cases xs with
        | nil => exact unp_inv.2.1 _ e fun a b c h q => by rw [h]; exact ⟨rfl, q⟩
        | cons u xs =>
          cases xs with
          | nil => exact unp_inv.2.2 _ e fun a b c d h q => by rw [h]; exact ⟨rfl, q⟩
          | cons _ _ => exact e.elim
theorem bindTup_inv {es : List Expr} {l : List PV} {H : PH} {Φ : Loc → PH → Prop} (e : bindTup sc ℓ es l Φ H) : (es.all isNameE = true ∧ (namesOf es).all (okNB sc) = true) ∧ l.length = (namesOf es).length ∧ optC (bindS (namesOf es) ℓ l) Φ H := by
  unfold bindTup at e
  cases h : es.all isNameE && (namesOf es).all (okNB sc) with
  | false => rw [h] at e; exact e.elim
  | true => rw [h] at e; exact ⟨Bool.and_eq_true_iff.mp h, bindX_inv e⟩
theorem names_each {es : List Expr} : es.all isNameE = true → (namesOf es).length = (assignEach es env).length ∧ (assignEach es env).findIdx? (·.1) = none := by
  induction es with
  | nil => exact fun _ => ⟨rfl, rfl⟩
  | cons e0 es ih =>
    intro h
    rw [List.all_cons, Bool.and_eq_true] at h
    obtain ⟨i1, i2⟩ := ih h.2
    cases e0 with
    | Name x q =>
      refine ⟨congrArg (· + 1) i1, ?_⟩
      show List.findIdx? (·.1) ((false, assign (.Name x q) env) :: assignEach es env) = none
      rw [List.findIdx?_cons, i2]
      rfl
    | _ => exact nomatch h.1
theorem su_tuple {es : List Expr} {k : Nat} {p : Pos} {v : Value} {d : PV} (hh : A.handled = none) : SmU prog w hb A sc env (fun σ H h => IsV hb σ H h v d) (assign (.Tuple es k p) env v) ℓ (bindC (ItemsC d) fun l => bindTup sc ℓ es l) := by
  intro σ H s Φ I F pv e Q E kk
  have ok : es.all isNameE = true := by
    cases e with
    | tup l h e => exact (bindTup_inv e).1.1
    | list j l h g e => exact (bindTup_inv e).1.1
  obtain ⟨n1, n2⟩ := names_each (env := env) ok
  rw [arm_assign_Tuple]
  refine wpAny_bind (wpAny_standAt ?_)
  unfold unpack
  rw [n2]
  refine wpAny_bind (wpAny_holding (unpack_items hh I pv e (fun l e => (bindTup_inv e).2.1.trans n1) fun vs h' l keep rvs e => ?_))
  obtain ⟨⟨h1, h2⟩, _, e⟩ := bindTup_inv e
  have R : Rl NoX σ H s.heap σ H h' := .all keep
  have I2 := I.extAll keep
  exact su_names h1 h2 σ H { s with heap := h' } Φ I2 (Frm.stb _ _ _ _ _ _ I R I2 F) (rvs.up R I) e Q E fun σ2 h2 tk2 ℓ2 H2 φ I3 R2 F2 => kk σ2 h2 tk2 ℓ2 H2 φ I3 (R.own.trans R2) F2
theorem sm_release {vs keep : List Value} : Sm prog w hb A P (release vs keep) IsU (pureC ()) := fun σ H s Φ I p e Q E k => wpAny_release' (k () σ s.heap s.toks () H e I .refl trivial)
theorem su_asg (hK : K.In hb) (hT : ClssOk K) {ev : Expr → CM PV} {t : Expr} {v : Value} {d : PV} (hh : A.handled = none) (He : ∀ e, Sm prog w hb A (Frm hb sc env ℓ) (eval e env) (IsV hb) (ev e)) :
    SmU prog w hb A sc env (fun σ H h => IsV hb σ H h v d) (assign t env v) ℓ (asgC sc ev ℓ d t) := by
  cases t with
  | Name x q => exact su_Name
  | Tuple es k p => exact su_tuple hh
  | Attribute o a p =>
    rw [arm_assign_Attribute]
    refine SmU.of_sm (c := bindC (ev o) fun ov => SetAttrC ov a d) ?_
    refine Sm.bind (Sm.holding ((He o).imp fun _ _ _ q => q.1)) (fun x x' => Sm.at ?_) (Frm.stb.and .val)
    exact Sm.left (Sm.holding ((sm_setAttr hK hT (x := x) (v := v) (a := x') (d := d)).imp fun _ _ _ q => ⟨q.2, q.1.2⟩)) ((Frm.stb.and .val).and .val) fun _ _ => sm_release
  | Subscript o i p =>
    rw [arm_assign_Subscript]
    refine SmU.of_sm (c := bindC (ev o) fun ov => bindC (ev i) fun iv => SetItemC ov iv d) ?_
    refine Sm.bind (Sm.holding ((He o).imp fun _ _ _ q => q.1)) (fun x x' => ?_) (Frm.stb.and .val)
    refine Sm.bind (Sm.holding ((He i).imp fun _ _ _ q => q.1.1)) (fun y y' => Sm.at ?_) ((Frm.stb.and .val).and .val)
    exact Sm.left (Sm.holding ((sm_setItem (o := x) (i := y) (v := v) (a := x') (b := y') (c := d)).imp fun _ _ _ q => ⟨⟨q.1.2, q.2⟩, q.1.1.2⟩)) (((Frm.stb.and .val).and .val).and .val) fun _ _ => sm_release
  | _ => exact SmU.fail
theorem su_tgt {t : Expr} {v : Value} {d : PV} (hh : A.handled = none) : SmU prog w hb A sc env (fun σ H h => IsV hb σ H h v d) (assign t env v) ℓ (bindTgt sc ℓ d t) := by
  cases t with
  | Name x q => exact su_Name
  | Tuple es k p => exact su_tuple hh
  | _ => exact SmU.fail
end
end Mine
namespace Mine
open PySem PySem.W PySem.Calls PyProof.Rows PySem.Spec PySem.SeqAt
noncomputable def privT (T : String) : Bool := !(["tuple", "range", "list", "dict"].contains T)
noncomputable def loneT (T : String) : Bool := !(["enumerate", "zip", "dict_itemiterator", "dict_reverseitemiterator", "odict_iterator", "itertools.zip_longest", "itertools.pairwise"].contains T)
noncomputable def PrivO (o : Obj) : Prop := ∃ T, o.cls = .type T ∧ privT T = true
theorem privT_ne {T S : String} (p : privT T = true) (h : ["tuple", "range", "list", "dict"].contains S = true) : T ≠ S := fun e => by
  rw [e, privT, h] at p; exact nomatch p
theorem PrivO.notVal {o : Obj} (p : PrivO o) : NotVal o :=
  let ⟨_, h, p⟩ := p
  ⟨fun e => absurd (Value.type.inj (h.symm.trans e)) (privT_ne p rfl), fun e => absurd (Value.type.inj (h.symm.trans e)) (privT_ne p rfl)⟩
theorem PrivO.notMut {hb σ H h} {o : Obj} {b : Addr} (p : PrivO o) (I : Inv hb σ H h) (e : h.get? b = some o) : ¬ Mut σ H.next b :=
  let ⟨_, h, p⟩ := p
  I.notMut_cls e h ⟨privT_ne p rfl, privT_ne p rfl⟩
noncomputable def Priv (wr : List Addr) (h : Heap) : Prop := ∀ b ∈ wr, ∃ o, h.get? b = some o ∧ PrivO o
noncomputable def Step (wr : List Addr) (h h' : Heap) : Prop := ∀ b o, h.get? b = some o → b ∉ wr → h'.get? b = some o
theorem Step.trans {wr h h' h''} (a : Step wr h h') (b : Step wr h' h'') : Step wr h h'' := fun x o e n => b x o (a x o e n) n
theorem Step.refl {wr h} : Step wr h h := fun _ _ e _ => e
theorem all1 {p : Addr → Prop} {a : Addr} (h : p a) : ∀ b ∈ [a], p b := fun _ q => List.mem_singleton.mp q ▸ h
theorem all2 {p : Addr → Prop} {a c : Addr} (h : p a) (h' : p c) : ∀ b ∈ [a, c], p b := fun _ q => (List.mem_cons.mp q).elim (fun q => q ▸ h) fun q => all1 h' _ q
structure Run where
  I : Addr
  fp : List Addr
  wr : List Addr
  St : Nat → Heap → Prop
  Mid : Nat → Value → Heap → Prop
structure Itr (prog : Program) (w : World) (A : Around) (hb : Heap) (tgt : Expr) (src : Src) (items : List PV) (V : Sg → PH → Heap → Prop) (R : Run) : Prop where
  valUp : ∀ (σ : Sg) (H : PH) (h : Heap) (σ' : Sg) (H' : PH) (h' : Heap), V σ H h → Keeps2 h σ H.next h' σ' H'.next → V σ' H' h'
  sub : ∀ b ∈ R.wr, b ∈ R.fp
  frame : ∀ i h h', R.St i h → (∀ b ∈ R.fp, ∀ o, h.get? b = some o → h'.get? b = some o) → R.St i h'
  here : ∀ i h, R.St i h → Priv R.wr h
  midHere : ∀ i v h, R.Mid i v h → Priv R.wr h
  base : ∀ b ∈ R.wr, hb.get? b = none
  all : ∀ i h, R.St i h → ∀ b ∈ R.fp, ∃ o, h.get? b = some o
  item : ∀ i d (σ : Sg) (H : PH) (s : Shared) (Q : Option Value → Shared → Prop) (E : Value → Shared → Prop), items[i]? = some d → R.St i s.heap → V σ H s.heap → Inv hb σ H s.heap → src.chk H →
    (∀ v h' tk, R.Mid i v h' → Step R.wr s.heap h' → RV hb h' σ H.next v d → Q (some v) { s with heap := h', toks := tk }) → wpAny (model prog w) A (pyNext (.ref R.I)) Q E s
  go : ∀ i v (s : Shared) (Q : Unit → Shared → Prop) (E : Value → Shared → Prop), R.Mid i v s.heap → (∀ h', R.St (i + 1) h' → Step R.wr s.heap h' → Q () { s with heap := h' }) → wpAny (model prog w) A (letOwnedTupleGo tgt (.ref R.I) v) Q E s
  done : ∀ (σ : Sg) (H : PH) (s : Shared) (Q : Option Value → Shared → Prop) (E : Value → Shared → Prop), R.St items.length s.heap → V σ H s.heap → Inv hb σ H s.heap → src.chk H →
    (∀ h' tk, Step R.wr s.heap h' → Q none { s with heap := h', toks := tk }) → wpAny (model prog w) A (pyNext (.ref R.I)) Q E s
  self : ∀ (s : Shared) (Q : Value → Shared → Prop) (E : Value → Shared → Prop), R.St 0 s.heap → Q (.ref R.I) s → wpAny (model prog w) A (pyIter (.ref R.I)) Q E s
section
variable {prog : Program} {w : World} {A : Around} {hb : Heap} {tgt : Expr}
theorem go_plain {I : Addr} {v : Value} {s : Shared} {Q : Unit → Shared → Prop} {E : Value → Shared → Prop} {o : Obj} {T : String} (ho : s.heap.get? I = some o) (hc : o.cls = .type T) (hT : loneT T = true) (h : Q () s) :
    wpAny (model prog w) A (letOwnedTupleGo tgt (.ref I) v) Q E s := by
  have hf := (Bool.not_eq_true' _).mp hT
  have body : wpAny (model prog w) A (letOwnedTupleGo (.Tuple [] 0 ⟨0, 0, 0, 0⟩) (.ref I) v) Q E s := by
    cases v with
    | ref a =>
      refine wpAny_bind (wpAny_load ho ?_)
      obtain ⟨oc, od, odt, osl⟩ := o
      subst hc
      cases odt with
      | fields vs => dsimp only; rw [hf, Bool.false_and]; exact wpAny_pure h
      | _ => exact wpAny_pure h
    | _ => exact wpAny_pure h
  cases tgt <;> first | exact wpAny_pure h | exact body
theorem Inv.priv {σ : Sg} {H : PH} {h h' : Heap} {wr : List Addr} (I : Inv hb σ H h) (hw : Priv wr h) (hbase : ∀ b ∈ wr, hb.get? b = none) (k : Step wr h h') : Inv hb σ H h' :=
  I.ext (X := fun b => b ∈ wr) ⟨fun b o e n => k b o e n⟩ (fun b q => let ⟨_, e, p⟩ := hw b q; p.notMut I e) hbase fun b o e q => let ⟨_, e', p⟩ := hw b q; Option.some.inj (e'.symm.trans e) ▸ p.notVal
theorem keeps_priv {σ : Sg} {H : PH} {h h' : Heap} {wr : List Addr} (hw : Priv wr h) (k : Step wr h h') : Keeps2 h σ H.next h' σ H.next :=
  have nv : ∀ a o, h.get? a = some o → a ∈ wr → NotVal o := fun a o e q => let ⟨_, e', p⟩ := hw a q; Option.some.inj (e'.symm.trans e) ▸ p.notVal
  ⟨Nat.le_refl _, fun _ _ => rfl, fun a o e c ⟨vs, n, d⟩ => k a o e fun q => (nv a o e q).1 c vs n d, fun a o e c ⟨x, d⟩ => k a o e fun q => (nv a o e q).2 c x d⟩
theorem Itr.of_walks {I : Addr} {fp : List Addr} {n : Nat} {P : Nat → Value → Prop} {St : Nat → Heap → Prop} {l : List PV} {T : String} (W : Walks prog w A I fp [I] n P St) (hn : l.length = n) (hbI : hb.get? I = none)
    (hT : ∀ i h, St i h → ∃ o, h.get? I = some o ∧ o.cls = .type T) (hall : ∀ i h, St i h → ∀ b ∈ fp, ∃ o, h.get? b = some o) (h1 : privT T = true) (h3 : loneT T = true)
    {V : Sg → PH → Heap → Prop} (hup : ∀ (σ : Sg) (H : PH) (h : Heap) (σ' : Sg) (H' : PH) (h' : Heap), V σ H h → Keeps2 h σ H.next h' σ' H'.next → V σ' H' h') (hP : ∀ i d v, l[i]? = some d → P i v → ∀ σ H h, V σ H h → RV hb h σ H.next v d) :
    Itr prog w A hb tgt (.fixed l) l V ⟨I, fp, [I], St, fun i v h => St (i + 1) h⟩ := by
  have here : ∀ i h, St i h → Priv [I] h := fun i h st => let ⟨o, ho, hc⟩ := hT i h st; all1 ⟨o, ho, T, hc, h1⟩
  refine ⟨hup, W.sub, W.frame, here, fun i v h st => here _ h st, all1 hbI, hall, fun i d σ H s Q E hd st hok I0 ck hQ => ?_, fun i v s Q E st hQ => ?_,
    fun σ H s Q E st _ I0 ck hQ => W.done s Q E (hn ▸ st) fun h' tk keep => hQ h' tk fun b o e nb => keep b o nb e, fun s Q E st hq => W.self 0 s Q E st hq⟩
  · refine W.item i s Q E (hn ▸ (List.getElem?_eq_some_iff.mp hd).1) st fun v h' tk hv st' keep => ?_
    have kk : Step [I] s.heap h' := fun b o e nb => keep b o nb e
    exact hQ v h' tk st' kk ((hP i d v hd hv σ H s.heap hok).mono (keeps_priv (here i _ st) kk))
  · obtain ⟨o, ho, hc⟩ := hT _ _ st
    exact go_plain ho hc h3 (hQ s.heap st .refl)
theorem iter_priv {h : Heap} {I ax : Addr} {i : Nat} (x : h.IsListIter I ax i) : ∃ o, h.get? I = some o ∧ PrivO o :=
  let ⟨o, ho, hc, _⟩ := x
  ⟨o, ho, "list_iterator", hc, rfl⟩
noncomputable abbrev LstV (j : Nat) (ax : Addr) (σ : Sg) (H : PH) (_ : Heap) : Prop := (σ j).1 = ax ∧ j < H.next
theorem lst_at {σ : Sg} {H : PH} {h : Heap} {j : Nat} {l : List PV} {ax : Addr} (I : Inv hb σ H h) (ck : (Src.lst j l).chk H) (ok : (σ j).1 = ax) : ∃ vs : Array Value, h.IsList ax vs ∧ vs.size = l.length ∧ ∀ (i : Nat) (d : PV), l[i]? = some d → ∃ v, vs[i]? = some v ∧ RV hb h σ H.next v d := by
  obtain ⟨_, us, m, o1, _, f⟩ := I.list ck
  exact ⟨us.toArray, listOf_isList (ok ▸ o1), by rw [List.size_toArray, f.length], fun i d e => let ⟨v, hv, rv⟩ := f.get e; ⟨v, toArr.trans hv, rv⟩⟩
theorem lst_up {σ : Sg} {H : PH} {h : Heap} {j : Nat} {ax : Addr} {σ' : Sg} {H' : PH} {h' : Heap} (v : LstV j ax σ H h) (k : Keeps2 h σ H.next h' σ' H'.next) : LstV j ax σ' H' h' := ⟨by rw [k.old j v.2]; exact v.1, Nat.lt_of_lt_of_le v.2 k.le⟩
theorem Itr.list (hh : A.handled = none) {I ax : Addr} {j : Nat} {l : List PV} (hbI : hb.get? I = none) :
    Itr prog w A hb tgt (.lst j l) l (LstV j ax) ⟨I, [I], [I], fun i h => h.IsListIter I ax i, fun i v h => h.IsListIter I ax (i + 1)⟩ := by
  have here : ∀ i (h : Heap), h.IsListIter I ax i → Priv [I] h := fun i h st => all1 (iter_priv st)
  have mem : ∀ {b : Addr}, b ∉ [I] → b ≠ I := fun n e => n (e ▸ .head _)
  refine ⟨fun _ _ _ _ _ _ v k => lst_up v k, fun _ h => h, fun i h h' st k => st.at fun o e => k I (.head _) o e, here, fun i v h st => here _ h st, all1 hbI, fun i h st => all1 (let ⟨o, e, _⟩ := iter_priv st; ⟨o, e⟩), fun i d σ H s Q E hd st ok I0 ck hQ => ?_, fun i v s Q E st hQ => ?_,
    fun σ H s Q E st ok I0 ck hQ => ?_, fun s Q E st hq => wpAny_pyIter_listiter st hq⟩
  · obtain ⟨vs, o1, _, f⟩ := lst_at I0 ck ok.1
    obtain ⟨v, hv, rv⟩ := f i d hd
    refine wpAny_pyNext_list_item st o1 hv fun h' hit' hs' => ?_
    have kk : Step [I] s.heap h' := fun b o e nb => hs'.extBut b o (mem nb) e
    exact hQ v h' s.toks hit' kk (rv.mono (keeps_priv (here i _ st) kk))
  · obtain ⟨o, ho, hc, _⟩ := id st
    exact go_plain ho hc rfl (hQ s.heap st .refl)
  · obtain ⟨vs, o1, hl, _⟩ := lst_at I0 ck ok.1
    exact wpAny_pyNext_list_end hh st o1 (Array.getElem?_eq_none (Nat.le_of_eq hl)) fun h' he' => hQ h' s.toks fun b o e nb => he' b o (mem nb) e
theorem enumL_get {l : List PV} : ∀ {k i : Nat} {d : PV}, (enumL k l)[i]? = some d → ∃ d', l[i]? = some d' ∧ d = .tup [.int ((k + i : Nat) : Int), d'] := by
  induction l with
  | nil => exact fun e => nomatch e
  | cons x l ih =>
    intro k i d e
    cases i with
    | zero => exact ⟨x, rfl, (Option.some.inj e).symm⟩
    | succ i =>
      obtain ⟨d', h1, h2⟩ := ih (k := k + 1) e
      exact ⟨d', h1, by rw [h2, Nat.add_right_comm]; rfl⟩
theorem enumL_len {l : List PV} : ∀ {k : Nat}, (enumL k l).length = l.length := by
  induction l with
  | nil => exact rfl
  | cons x l ih => exact congrArg (· + 1) ih
theorem Itr.enum (hh : A.handled = none) {e it ax : Addr} {j : Nat} {l : List PV} {es : List Expr} {k : Nat} {p : Pos} (hbe : hb.get? e = none) (hbI : hb.get? it = none) (hne : e ≠ it) :
    Itr prog w A hb (.Tuple es k p) (.lst j l) (enumL 0 l) (LstV j ax) ⟨e, [e, it], [e, it], fun i h => ∃ old, IsEnum h e it ((i : Nat) : Int) old ∧ h.IsListIter it ax i,
      fun i v h => ∃ item a, v = .ref a ∧ IsEnumOut h e it (((i : Nat) : Int) + 1) item a ∧ h.IsListIter it ax (i + 1)⟩ := by
  have here : ∀ i (h : Heap), (∃ old, IsEnum h e it ((i : Nat) : Int) old ∧ h.IsListIter it ax i) → Priv [e, it] h := fun i h ⟨_, st1, st2⟩ => all2 ⟨_, st1, "enumerate", rfl, rfl⟩ (iter_priv st2)
  have ne1 : ∀ {b : Addr}, b ∉ [e, it] → b ≠ e := fun n q => n (q ▸ .head _)
  have ne2 : ∀ {b : Addr}, b ∉ [e, it] → b ≠ it := fun n q => n (q ▸ .tail _ (.head _))
  refine ⟨fun _ _ _ _ _ _ v k => lst_up v k, fun _ h => h, fun i h h' ⟨old, st1, st2⟩ k => ⟨old, k e (.head _) _ st1, st2.at fun o e => k it (.tail _ (.head _)) o e⟩, here,
    fun i v h ⟨_, _, _, st1, st2⟩ => all2 ⟨_, st1, "enumerate", rfl, rfl⟩ (iter_priv st2), all2 hbe hbI, fun i h st b hb => let ⟨o, e, _⟩ := here i h st b hb; ⟨o, e⟩, fun i d σ H s Q E hd st ok I0 ck hQ => ?_, fun i v s Q E st hQ => ?_,
    fun σ H s Q E st ok I0 ck hQ => ?_, fun s Q E ⟨_, st1, _⟩ hq => wpAny_pyIter_enum st1 hq⟩
  · obtain ⟨vs, o1, _, f⟩ := lst_at I0 ck ok.1
    obtain ⟨d', hd', rfl⟩ := enumL_get hd
    obtain ⟨v, hv, rv⟩ := f i d' hd'
    have hr := here i _ st
    obtain ⟨old, st1, st2⟩ := st
    refine wpAny_pyNext_enum_item st1 st2 o1 hv hne fun h' heo hit' ht hz keep => ?_
    have kk : Step [e, it] s.heap h' := fun b o q nb => keep b o (ne1 nb) (ne2 nb) q
    have rv' := rv.mono (keeps_priv hr kk)
    refine hQ _ h' (s.toks + 1) ⟨v, _, rfl, heo, hit'⟩ kk (.tup ht rfl rfl ?_)
    rw [Nat.zero_add]
    exact .cons (.int _ _) (.cons rv' .nil)
  · obtain ⟨item, a, rfl, st1, st2⟩ := st
    exact wpAny_letOwnedTupleGo_enum st1 fun h' he' hs' => hQ h' ⟨item, he', st2.extBut hs'.extBut (Ne.symm hne)⟩ fun b o q nb => hs'.extBut b o (ne1 nb) q
  · obtain ⟨vs, o1, hl, _⟩ := lst_at I0 ck ok.1
    obtain ⟨old, st1, st2⟩ := st
    rw [enumL_len] at st1 st2
    exact wpAny_pyNext_enum_end hh st1 st2 o1 (Array.getElem?_eq_none (Nat.le_of_eq hl)) fun h' he' => hQ h' s.toks fun b o q nb => he' b o (ne2 nb) q
end
end Mine
namespace Mine
open PySem PySem.W PySem.Calls PyProof.Rows PySem.Spec PySem.SeqAt
structure Ready (prog : Program) (w : World) (A : Around) (hb : Heap) (tgt : Expr) (env : Env) (σ : Sg) (H : PH) (h : Heap) (src : Src) (items : List PV) (V : Sg → PH → Heap → Prop) (R : Run) (σ' : Sg) (H' : PH) (h' : Heap) : Prop where
  itr : Itr prog w A hb tgt src items V R
  inv : Inv hb σ' H' h'
  rl : Rl NoX σ H h σ' H' h'
  st : R.St 0 h'
  val : V σ' H' h'
  fresh : ∀ b ∈ R.wr, h.get? b = none
  fpOk : ∀ b ∈ R.fp, ¬ Mut σ' H'.next b ∧ ¬ OwnAll env b
  len : items.length ≤ 1000
section
variable {prog : Program} {w : World} {A : Around} {hb : Heap} {tgt : Expr} {sc : Scope} {env : Env} {ℓ : Loc} {σ : Sg} {H : PH} {h : Heap} {src : Src} {items : List PV}
theorem folded_eq {e : Expr} {x : Value} (ok : okE e = true) : foldedSetIterable e env x = pure x := by
  unfold foldedSetIterable
  cases e <;> first | rfl | exact nomatch ok
theorem own_old (F : Frm hb sc env ℓ σ H h) {b : Addr} (e : h.get? b = none) : ¬ OwnAll env b := fun q =>
  q.elim (fun q => let ⟨_, ⟨_, _, _, ho, _⟩, _⟩ := F.ns; nomatch (q ▸ e).symm.trans ho) fun ⟨x, q⟩ => let ⟨_, _, ho, _⟩ := F.cellAt x b q; nomatch e.symm.trans ho
theorem Ready.push (I0 : Inv hb σ H h) (F : Frm hb sc env ℓ σ H h) {V : Sg → PH → Heap → Prop} {o : Obj} {fp : List Addr} {St : Nat → Heap → Prop} {Mid : Nat → Value → Heap → Prop} (po : PrivO o) (nf : o.isFreed = false)
    (itr : Itr prog w A hb tgt src items V ⟨h.objs.size, fp, [h.objs.size], St, Mid⟩) (st : St 0 (h.push o)) (hv : V σ H (h.push o)) (hfp : ∀ b ∈ fp, b = h.objs.size ∨ (¬ Mut σ H.next b ∧ ¬ OwnAll env b)) (hl : items.length ≤ 1000) :
    Ready prog w A hb tgt env σ H h src items V ⟨h.objs.size, fp, [h.objs.size], St, Mid⟩ σ H (h.push o) := by
  have kk : ∀ b x, h.get? b = some x → (h.push o).get? b = some x := fun b x e => Heap.get?_push_of_some _ e
  have I1 := I0.extAll kk
  exact ⟨itr, I1, .all kk, st, hv, all1 (get_size_none _), fun b hb' => (hfp b hb').elim (fun q => q ▸ ⟨po.notMut I1 (Heap.get?_push_size _ nf), own_old F (get_size_none _)⟩) id, hl⟩
theorem charsL_len {x : Str} : (charsL x).length = x.cps.size := List.length_map ..
theorem nats_len {n : Nat} : (natsL n).length = n := (List.length_map ..).trans List.length_range
theorem nats_get {n i : Nat} {d : PV} (e : (natsL n)[i]? = some d) : d = .int (i : Int) := by
  rw [natsL, List.getElem?_map] at e
  obtain ⟨m, hm, rfl⟩ := Option.map_eq_some_iff.mp e
  obtain ⟨h1, h2⟩ := List.getElem?_eq_some_iff.mp hm
  rw [List.getElem_range] at h2
  rw [h2]
theorem iter_str {s : Shared} {x : Str} {t : Tok} {Q : Value → Shared → Prop} {T : String} (I0 : Inv hb σ H s.heap) (F : Frm hb sc env ℓ σ H s.heap) (hl : x.cps.size ≤ 1000) (h1 : privT T = true) (h3 : loneT T = true)
    (k : ∀ V R h' tk, Ready prog w A hb tgt env σ H s.heap (.fixed (charsL x)) (charsL x) V R σ H h' → Q (.ref R.I) { s with heap := h', toks := tk })
    (W : Walks prog w A s.heap.objs.size [s.heap.objs.size] [s.heap.objs.size] x.cps.size (SignAt x) (fun i h => h.IsStrIter s.heap.objs.size T x t i)) : Q (.ref s.heap.objs.size) { s with heap := s.heap.push { cls := .type T, data := .fields #[.str x t, .int 0 0] } } := by
  have here : ∀ i h, Heap.IsStrIter h s.heap.objs.size T x t i → ∃ o, h.get? s.heap.objs.size = some o ∧ o.cls = .type T := fun i h ⟨o, h1, h2, _⟩ => ⟨o, h1, h2⟩
  exact k (fun _ _ _ => True) _ _ s.toks (Ready.push I0 F ⟨T, rfl, h1⟩ rfl
    (Itr.of_walks W charsL_len (base_none I0 _ (Nat.le_refl _)) (T := T) here (fun i h st => all1 (let ⟨o, e, _⟩ := here i h st; ⟨o, e⟩)) h1 h3 (fun _ _ _ _ _ _ _ _ => trivial) (fun i d v hd hv σ H h o => by
      obtain ⟨c, u, hc, rfl⟩ := hv
      rw [charsL, List.getElem?_map, Array.getElem?_toList, hc] at hd
      exact Option.some.inj hd ▸ .str _ _)) ⟨_, Heap.get?_push_size _ rfl, rfl, rfl⟩ trivial (all1 (.inl rfl)) (charsL_len ▸ hl))
theorem iter_src {s : Shared} {v : Value} {d : PV} {Φ : Src × List PV → PH → Prop} {Q : Value → Shared → Prop} {E : Value → Shared → Prop} (hh : A.handled = none) (I0 : Inv hb σ H s.heap) (F : Frm hb sc env ℓ σ H s.heap) (p : RV hb s.heap σ H.next v d) (e : SrcC d Φ H)
    (k : ∀ src items V R h' tk, Φ (src, items) H → Ready prog w A hb tgt env σ H s.heap src items V R σ H h' → Q (.ref R.I) { s with heap := h', toks := tk }) : wpAny (model prog w) A (pyIter v) Q E s := by
  have new := base_none I0 _ (Nat.le_refl _)
  cases e with
  | tup l h hl e =>
    subst h
    obtain ⟨ta, to, vs, n, rfl, a, b, c, r⟩ := RV.inv p
    have hlen := r.length
    rw [Array.length_toList] at hlen
    have ht : s.heap.IsTuple ta vs := ⟨to, a, b, n, c⟩
    have W := Walks.tuple (prog := prog) (w := w) hh s.heap.objs.size ta (Nat.ne_of_lt (Heap.lt_size a)) vs
    have kk : ∀ b x, s.heap.get? b = some x → (s.heap.push { cls := .type "tuple_iterator", data := .fields #[.ref ta, .int 0 0] }).get? b = some x := fun b x e => Heap.get?_push_of_some _ e
    exact wpAny_pyIter_tuple ht (k _ _ (fun σ H h => RVs hb h σ H.next vs.toList l) _ _ s.toks e (Ready.push I0 F ⟨"tuple_iterator", rfl, rfl⟩ rfl
      (Itr.of_walks W hlen.symm new (T := "tuple_iterator") (fun i h st => let ⟨o, h1, h2, _⟩ := st.1; ⟨o, h1, h2⟩) (fun i h st => all2 (let ⟨o, h1, _⟩ := st.1; ⟨o, h1⟩) (let ⟨o, h1, _⟩ := st.2; ⟨o, h1⟩)) rfl rfl (fun σ H h σ' H' h' o k2 => RVs.mono k2 o) (fun i d v hd hv σ H h o => by
        obtain ⟨u, hu, ru⟩ := o.get hd
        rw [Array.getElem?_toList] at hu
        exact Option.some.inj (hu.symm.trans hv) ▸ ru))
      ⟨⟨_, Heap.get?_push_size _ rfl, rfl, rfl⟩, ht.push _⟩ (r.mono (Rl.keeps (.all kk) I0)) (all2 (.inl rfl) (.inr ⟨I0.notMut_tuple a b, fun q => (F.allData _ _ a q).1 b vs n c⟩)) hl))
  | list j l h g hl e =>
    subst h
    rw [(RV.inv p).1]
    obtain ⟨_, vs, n, o1, _, f⟩ := I0.list g
    exact wpAny_pyIter_list (listOf_isList o1) (k _ _ _ _ _ s.toks e (Ready.push I0 F ⟨"list_iterator", rfl, rfl⟩ rfl (Itr.list hh (ax := (σ j).1) new) ⟨_, Heap.get?_push_size _ rfl, rfl, rfl⟩ ⟨rfl, (I0.list g).1⟩ (all1 (.inl rfl)) hl))
  | rng n h hl e =>
    subst h
    obtain ⟨a, t, u, w', rfl, hr⟩ := RV.inv p
    have W := Walks.range (prog := prog) (w := w) hh s.heap.objs.size 0 1 n
    have hz : Builtin.Range.rangeSize 0 (n : Int) 1 = n := by rw [rangeSize_one]; split <;> omega
    refine wpAny_pyIter_range hr (small_one (by omega) (by omega) (by omega) (by omega)) (k _ _ (fun _ _ _ => True) _ _ s.toks e (Ready.push I0 F ⟨"range_iterator", rfl, rfl⟩ rfl
      (Itr.of_walks W nats_len new (T := "range_iterator") (fun i h st => ⟨_, st, rfl⟩) (fun i h st => all1 ⟨_, st⟩) rfl rfl (fun _ _ _ _ _ _ _ _ => trivial) (fun i d v hd hv σ H h o => by
        obtain ⟨t, rfl⟩ := hv
        rw [nats_get hd, Int.mul_one, Int.zero_add]
        exact .int _ _)) ?_ trivial (all1 (.inl rfl)) (nats_len ▸ hl)))
    show IsRangeIter _ _ _ _ _
    rw [show (0 : Int) + ((0 : Nat) : Int) * 1 = 0 by omega, show (n : Int) - ((0 : Nat) : Int) = n by omega, hz]
    exact Heap.get?_push_size _ rfl
  | str x h hl e =>
    subst h
    obtain ⟨t, rfl⟩ := RV.inv p
    cases ha : x.cps.all (· < 128)
    · exact wpAny_pyIter_wide ha (iter_str I0 F hl rfl rfl (fun V R h' tk q => k _ _ V R h' tk e q) (Walks.strWide hh _ x t))
    · exact wpAny_pyIter_ascii ha (iter_str I0 F hl rfl rfl (fun V R h' tk q => k _ _ V R h' tk e q) (Walks.strAscii hh _ x t))
theorem Ready.back {V R σ1 H1 h1 σ' H' h'} (r : Rl NoX σ H h σ1 H1 h1) (X : Ready prog w A hb tgt env σ1 H1 h1 src items V R σ' H' h') : Ready prog w A hb tgt env σ H h src items V R σ' H' h' :=
  ⟨X.itr, X.inv, r.trans X.rl, X.st, X.val, fun b hb' => (by
    cases q : h.get? b with
    | none => rfl
    | some o =>
      obtain ⟨o', e'⟩ := r.there b o q id
      exact nomatch (X.fresh b hb').symm.trans e'), X.fpOk, X.len⟩
theorem iter_enum {s : Shared} {v : Value} {d : PV} {Φ : Src × List PV → PH → Prop} {Q : Value → Shared → Prop} {E : Value → Shared → Prop} (hh : A.handled = none) (htg : isTupE tgt = true)
    (I0 : Inv hb σ H s.heap) (F : Frm hb sc env ℓ σ H s.heap) (p : RV hb s.heap σ H.next v d) (e : EnumC d Φ H)
    (k : ∀ src items V R h' tk, Φ (src, items) H → Ready prog w A hb tgt env σ H s.heap src items V R σ H h' → Q (.ref R.I) { s with heap := h', toks := tk }) : wpAny (model prog w) A (call (.type "enumerate") [v]) Q E s := by
  obtain ⟨j, l, h, g, hl, e⟩ := e
  subst h
  rw [(RV.inv p).1]
  obtain ⟨_, vs, n, o1, _, f⟩ := I0.list g
  refine call_enumerate_1 o1 fun h' he hit hz keep => ?_
  have I1 := I0.extAll keep
  cases tgt with
  | Tuple es kk pp =>
    have itr := Itr.enum (prog := prog) (w := w) (hb := hb) (es := es) (k := kk) (p := pp) hh (ax := (σ j).1) (j := j) (l := l) (base_none I0 (s.heap.objs.size + 1) (Nat.le_succ _)) (base_none I0 _ (Nat.le_refl _)) (Nat.succ_ne_self _)
    have st0 : (∃ old, IsEnum h' (s.heap.objs.size + 1) s.heap.objs.size ((0 : Nat) : Int) old ∧ h'.IsListIter s.heap.objs.size (σ j).1 0) := ⟨.none, he, hit⟩
    have out : ∀ b, b ∈ [s.heap.objs.size + 1, s.heap.objs.size] → s.heap.get? b = none := all2 (get_size_none' _ (Nat.le_succ _)) (get_size_none _)
    exact k _ _ _ _ h' s.toks e ⟨itr, I1, .all keep, st0, ⟨rfl, (I0.list g).1⟩, out, fun b hb' => ⟨let ⟨o, ho, po⟩ := itr.here 0 h' st0 b hb'; po.notMut I1 ho, own_old F (out b hb')⟩, by rw [enumL_len]; exact hl⟩
  | _ => exact nomatch htg
end
end Mine
namespace Mine
open PySem PySem.W PySem.Calls PyProof.Rows PySem.Spec PySem.SeqAt
theorem Keeps2.trans {h σ nx h' σ' nx' h'' σ'' nx''} (a : Keeps2 h σ nx h' σ' nx') (b : Keeps2 h' σ' nx' h'' σ'' nx'') : Keeps2 h σ nx h'' σ'' nx'' :=
  ⟨Nat.le_trans a.le b.le, fun i hi => (b.old i (Nat.lt_of_lt_of_le hi a.le)).trans (a.old i hi), fun x o e c d => b.tup x o (a.tup x o e c d) c d, fun x o e c d => b.rng x o (a.rng x o e c d) c d⟩
section
variable {prog : Program} {w : World} {A : Around} {hb : Heap} {tgt : Expr} {sc : Scope} {env : Env} {ℓ ℓ' : Loc} {src : Src} {items : List PV} {V : Sg → PH → Heap → Prop} {R : Run} {X Y : Addr → Prop} {fq : List Addr} {σ0 σ σ' : Sg} {H0 H H' : PH} {h0 h h' : Heap} {i : Nat}
theorem name_enum {x : Str} (h : isEnum sc x = true) : nameP sc ℓ x = some (.raw (.type "enumerate")) := by
  obtain ⟨h1, h2⟩ := Bool.and_eq_true_iff.mp h
  rw [of_decide_eq_true h1] at h2 ⊢
  have h2 := of_decide_eq_true h2
  unfold nameP
  rw [if_neg (by decide), h2]
  show glob "enumerate" = _
  kernel_rfl
theorem noneSome {α : Type} {a : α} {p : Prop} (e : none = some a) : p := nomatch e
theorem enumArg_inv {e a : Expr} (h : enumArg sc tgt e = some a) : ∃ x p q, e = .Call (.Name x p) [a] [] q ∧ (isEnum sc x && isTupE tgt && okE a) = true := by
  cases e with
  | Call f as ks q =>
    cases f with
    | Name x p =>
      cases as with
      | nil => exact noneSome h
      | cons a' as =>
        cases as with
        | nil =>
          cases ks with
          | nil =>
            unfold enumArg at h
            dsimp only at h
            by_cases hc : (isEnum sc x && isTupE tgt && okE a') = true
            · rw [if_pos hc] at h; exact Option.some.inj h ▸ ⟨x, p, q, rfl, hc⟩
            · rw [if_neg hc] at h; exact noneSome h
          | cons _ _ => exact noneSome h
        | cons _ _ => exact noneSome h
    | _ => exact noneSome h
  | _ => exact noneSome h
theorem iterC_inv {r : Lv} {e : Expr} {Φ : Src × List PV → PH → Prop} (e0 : iterC r sc ℓ tgt e Φ H) :
    (∃ x p a q, e = .Call (.Name x p) [a] [] q ∧ (isEnum sc x && isTupE tgt && okE a) = true ∧ bindC (r.ev sc ℓ a) EnumC Φ H) ∨ (okE e = true ∧ bindC (r.ev sc ℓ e) SrcC Φ H) := by
  unfold iterC at e0
  cases h : enumArg sc tgt e with
  | some a =>
    rw [h] at e0
    obtain ⟨x, p, q, h1, h2⟩ := enumArg_inv h
    exact .inl ⟨x, p, a, q, h1, h2, e0⟩
  | none =>
    rw [h] at e0
    by_cases ok : okE e = true
    · have e0 : (if okE e then bindC (r.ev sc ℓ e) SrcC else failC) Φ H := e0
      rw [if_pos ok] at e0; exact .inr ⟨ok, e0⟩
    · have e0 : (if okE e then bindC (r.ev sc ℓ e) SrcC else failC) Φ H := e0
      rw [if_neg ok] at e0; exact e0.elim
theorem run_iter (G : GlobOk hb) {r : Lv} {e : Expr} {s : Shared} {Φ : Src × List PV → PH → Prop} {Q : Value → Shared → Prop} {E : Value → Shared → Prop} (hh : A.handled = none)
    (He : ∀ e, Sm prog w hb A (Frm hb sc env ℓ) (eval e env) (IsV hb) (r.ev sc ℓ e)) (I0 : Inv hb σ H s.heap) (F : Frm hb sc env ℓ σ H s.heap) (e0 : iterC r sc ℓ tgt e Φ H)
    (k : ∀ src items V R σ' H' h' tk, Φ (src, items) H' → Ready prog w A hb tgt env σ H s.heap src items V R σ' H' h' → Q (.ref R.I) { s with heap := h', toks := tk }) :
    okE e = true ∧ wpAny (model prog w) A (eval e env) (fun x s₁ => wpAny (model prog w) A (pyIter x) Q E s₁) E s := by
  rcases iterC_inv e0 with ⟨x, p, a, q, rfl, hc, e0⟩ | ⟨ok, e0⟩
  · refine ⟨rfl, ?_⟩
    rw [Bool.and_eq_true, Bool.and_eq_true] at hc
    obtain ⟨⟨h1, h2⟩, h3⟩ := hc
    rw [arm_Call_Name]
    have en := sm_name (prog := prog) (w := w) (A := A) (env := env) (sc := sc) (ℓ := ℓ) (p := p) (x := x) G
    rw [name_enum h1] at en
    refine wpAny_bind (en σ H s (fun d H' => d = .raw (.type "enumerate") ∧ bindC (r.ev sc ℓ a) EnumC Φ H') I0 F ⟨rfl, e0⟩ _ E fun g σ0 h0 tk0 d0 H0 e1 I00 r0 q0 => ?_)
    obtain ⟨rfl, e0⟩ := e1
    obtain rfl : g = .type "enumerate" := RV.inv q0
    have F0 := Frm.stb _ _ _ _ _ _ I0 r0 I00 F
    rw [star_ok h3]
    refine callWith_of (P := fun h => Keeps hb h) rfl (KeepF.type (prog := prog) (w := w)) ?_
    refine evalArgs_plain (Calls.spliced_cons ?_)
    refine He a σ0 H0 { s with heap := h0, toks := tk0 } _ I00 F0 e0 _ E fun v σ1 h1 tk1 d H1 e1 I1 r1 q1 => Calls.spliced_nil ⟨I1.keep, ?_⟩
    exact iter_enum (tgt := tgt) (s := { s with heap := h1, toks := tk1 }) hh h2 I1 (Frm.stb _ _ _ _ _ _ I00 r1 I1 F0) q1 e1 fun src items V R h' tk φ X => X.itr.self _ _ _ X.st (k _ _ _ _ _ _ _ tk φ ((X.back r1).back r0))
  · exact ⟨ok, He e σ H s _ I0 F e0 _ E fun v σ1 h1 tk1 d H1 e1 I1 r1 q1 => iter_src (tgt := tgt) (s := { s with heap := h1, toks := tk1 }) hh I1 (Frm.stb _ _ _ _ _ _ I0 r1 I1 F) q1 e1 fun src items V R h' tk φ X => k _ _ _ _ _ _ _ tk φ (X.back r1)⟩
theorem Frm.but {wr : List Addr} (F : Frm hb sc env ℓ σ H h) (k2 : Keeps2 h σ H.next h' σ H.next) (how : ∀ b ∈ wr, ¬ OwnAll env b) (k : Step wr h h') : Frm hb sc env ℓ σ H h' := by
  obtain ⟨m, hn, hm⟩ := F.ns
  have hC : ∀ {x c v}, (x, c) ∈ env.cells → h.IsCell c v → h'.IsCell c v := fun {x c v} q ⟨o, ho, hd⟩ => ⟨o, k _ _ ho fun z => how _ z (.inr ⟨x, q⟩), hd⟩
  exact ⟨F.sc, F.kind, F.glob, F.bi, ⟨m, hn.at' fun o e => k _ _ e fun z => how _ z (.inl rfl), fun x v e q => let ⟨cv, h1, h2⟩ := hm x v e q; ⟨cv, h1, h2.mono k2⟩⟩,
    fun x v e q => let ⟨c, cv, h1, h2, h3⟩ := F.cell x v e q; ⟨c, cv, h1, hC (mem_of_look h1) h2, h3.mono k2⟩, F.cells, fun x c e => let ⟨v, hv⟩ := F.cellAt x c e; ⟨v, hC e hv⟩, F.apart, F.own, F.base, F.cbase⟩
theorem rl_priv {wr : List Addr} (k : Step wr h h') (hX : ∀ b ∈ wr, X b) : Rl X σ H h σ H h' := .of_ext ⟨fun b o e n => k b o e fun q => n (hX b q)⟩
structure Turn (hb : Heap) (sc : Scope) (env : Env) (V : Sg → PH → Heap → Prop) (R : Run) (X : Addr → Prop) (fq : List Addr) (σ0 : Sg) (H0 : PH) (h0 : Heap) (i : Nat) (ℓ : Loc) (σ : Sg) (H : PH) (h : Heap) : Prop where
  inv : Inv hb σ H h
  frm : Frm hb sc env ℓ σ H h
  st : R.St i h
  val : V σ H h
  rl : Rl X σ0 H0 h0 σ H h
  fp : ∀ b ∈ fq, ¬ Mut σ H.next b
  there : ∀ b ∈ fq, ∃ o, h.get? b = some o
theorem Turn.step {s : Shared} (itr : Itr prog w A hb tgt src items V R) (hX : ∀ b ∈ R.wr, X b) (how : ∀ b ∈ R.wr, ¬ OwnAll env b) (T : Turn hb sc env V R X fq σ0 H0 h0 i ℓ σ H s.heap) {d : PV} (hd : items[i]? = some d) (ck : src.chk H) {Q : Option Value → Shared → Prop} {E : Value → Shared → Prop}
    (k : ∀ v h3 tk3, (∀ (Q2 : Unit → Shared → Prop) (E2 : Value → Shared → Prop), (∀ h4, Turn hb sc env V R X fq σ0 H0 h0 (i + 1) ℓ σ H h4 → Step R.wr s.heap h4 → Keeps2 s.heap σ H.next h4 σ H.next → RV hb h4 σ H.next v d → Q2 () { s with heap := h4, toks := tk3 }) →
      wpAny (model prog w) A (letOwnedTupleGo tgt (.ref R.I) v) Q2 E2 { s with heap := h3, toks := tk3 }) → Q (some v) { s with heap := h3, toks := tk3 }) : wpAny (model prog w) A (pyNext (.ref R.I)) Q E s :=
  itr.item i d σ H s Q E hd T.st T.val T.inv ck fun v h3 tk3 mid keep rv => k v h3 tk3 fun Q2 E2 k2 => itr.go i v { s with heap := h3, toks := tk3 } Q2 E2 mid fun h4 st4 keep4 => by
    have here := itr.here i s.heap T.st
    have keep24 : Step R.wr s.heap h4 := keep.trans keep4
    have K24 := keeps_priv (σ := σ) (H := H) here keep24
    refine k2 h4 ⟨T.inv.priv here itr.base keep24, T.frm.but K24 how keep24, st4, itr.valUp _ _ _ _ _ _ T.val K24, T.rl.trans (rl_priv keep24 hX), T.fp, fun b hb' => ?_⟩ keep24 K24 (rv.mono (keeps_priv (σ := σ) (H := H) (itr.midHere i v h3 mid) keep4))
    by_cases q : b ∈ R.wr
    · exact itr.all _ _ st4 b (itr.sub b q)
    · obtain ⟨o, ho⟩ := T.there b hb'; exact ⟨o, keep24 b o ho q⟩
theorem Turn.move (itr : Itr prog w A hb tgt src items V R) (sub : ∀ b ∈ R.fp, b ∈ fq) (T : Turn hb sc env V R X fq σ0 H0 h0 i ℓ σ H h) (r : Rl Y σ H h σ' H' h') (hY : ∀ b, Y b → X b) (nY : ∀ b ∈ fq, ¬ Y b) (K : Keeps2 h σ H.next h' σ' H'.next) (I : Inv hb σ' H' h') (F : Frm hb sc env ℓ' σ' H' h') :
    Turn hb sc env V R X fq σ0 H0 h0 i ℓ' σ' H' h' :=
  ⟨I, F, itr.frame _ _ _ T.st fun b hb' o e => r.keep b o e (nY b (sub b hb')) (T.fp b (sub b hb')), itr.valUp _ _ _ _ _ _ T.val K, T.rl.trans (r.weak hY), fun b hb' => let ⟨o, ho⟩ := T.there b hb'; r.mut ho (nY b hb') (T.fp b hb'), fun b hb' => let ⟨o, ho⟩ := T.there b hb'; ⟨o, r.keep b o ho (nY b hb') (T.fp b hb')⟩⟩
inductive LoopS (s : Shared) (items : List PV) (P : Nat → List PV → Loc → Sg → PH → Heap → Prop) : Nat → Shared → Prop
  | mk (i : Nat) (rest : List PV) (ℓ : Loc) (σ : Sg) (H : PH) (h : Heap) (tk : Nat) (hd : items.drop i = rest) (hl : i + rest.length = items.length) (p : P i rest ℓ σ H h) : LoopS s items P rest.length { s with heap := h, toks := tk }
theorem drop_at {d : PV} {rest : List PV} (h : items.drop i = d :: rest) : items[i]? = some d ∧ items.drop (i + 1) = rest := by
  refine ⟨?_, ?_⟩
  · have := congrArg (·[0]?) h
    rwa [List.getElem?_drop] at this
  · have := congrArg List.tail h
    rwa [List.tail_drop] at this
end
end Mine
namespace Mine
open PySem PySem.W PySem.Calls PyProof.Rows PySem.Spec PySem.SeqAt
section
variable {prog : Program} {w : World} {A : Around} {hb : Heap} {tgt : Expr} {sc : Scope} {env : Env} {ℓ : Loc}
theorem ss_for (G : GlobOk hb) {r : Lv} {it : Expr} {b : List Stmt} {p : Pos} (hh : A.handled = none)
    (He : ∀ ℓ e, Sm prog w hb A (Frm hb sc env ℓ) (eval e env) (IsV hb) (r.ev sc ℓ e)) (Hb : ∀ ℓ, SmS prog w hb A sc env (execs b env) ℓ (exL (r.ex sc) b ℓ)) :
    SmS prog w hb A sc env (exec (.For tgt it b [] p) env) ℓ (fun kr => bindC (iterC r sc ℓ tgt it) fun s => loopF s.1 (fun v ℓ' => bindC (bindTgt sc ℓ' v tgt) fun ℓ'' => exL (r.ex sc) b ℓ'' kr) s.2 ℓ) := by
  intro σ H s kr Φ I0 F e Q E k
  obtain ⟨okE', hw⟩ := run_iter (tgt := tgt) (s := s) (Q := fun x s₂ => codeAny (model prog w) A (.forLoop tgt x b [] env) (fun r s' => match r with | .ok f => Q f s' | .error e => cameBackBy (model prog w) A env E e s') s₂) (E := E) G hh (He ℓ) I0 F e fun src items V R σ1 H1 h1 tk1 e2 X => by
    have how : ∀ b ∈ R.wr, ¬ OwnAll env b := fun b hb' => (X.fpOk b (X.itr.sub b hb')).2
    have howf : ∀ b ∈ R.fp, ¬ Own sc env b := fun b hb' q => (X.fpOk b hb').2 q.all
    refine codeAny_forLoop_any (LoopS s items fun i rest ℓ2 σ2 H2 h2 => Turn hb sc env V R (fun b => Own sc env b ∨ b ∈ R.wr) R.fp σ H s.heap i ℓ2 σ2 H2 h2 ∧ loopF src (fun v ℓ' => bindC (bindTgt sc ℓ' v tgt) fun ℓ'' => exL (r.ex sc) b ℓ'' kr) rest ℓ2 Φ H2) (fun n s' L => ?_) _
      (.mk 0 items ℓ σ1 H1 h1 tk1 rfl (Nat.zero_add _) ⟨⟨X.inv, Frm.stb _ _ _ _ _ _ I0 X.rl X.inv F, X.st, X.val, X.rl.weak fun _ x => x.elim, fun b hb' => (X.fpOk b hb').1, X.itr.all 0 h1 X.st⟩, e2⟩)
    have fin : ∀ {σ3 H3 h3}, Rl (fun b => Own sc env b ∨ b ∈ R.wr) σ H s.heap σ3 H3 h3 → Rl (Own sc env) σ H s.heap σ3 H3 h3 := fun r3 =>
      r3.drop (h := s.heap) (fun _ _ e _ => e) fun b o g x => x.elim id fun q => nomatch (X.fresh b q).symm.trans g
    obtain ⟨i, rest, ℓ2, σ2, H2, h2, tk2, hd, hl, T, e3⟩ := L
    cases rest with
    | nil =>
      obtain ⟨ck, e3⟩ := e3
      obtain rfl : i = items.length := hl
      refine X.itr.done σ2 H2 { s with heap := h2, toks := tk2 } _ _ T.st T.val T.inv ck fun h3 tk3 keep => wpAny_execs_nil ?_
      have here2 := X.itr.here _ h2 T.st
      exact k.1 σ2 h3 tk3 ℓ2 H2 e3 (T.inv.priv here2 X.itr.base keep) (fin (T.rl.trans (rl_priv keep fun b q => .inr q))) (T.frm.but (keeps_priv here2 keep) how keep)
    | cons d rest =>
      obtain ⟨hdi, hdr⟩ := drop_at hd
      obtain ⟨ck, e3⟩ := e3
      refine T.step (s := { s with heap := h2, toks := tk2 }) X.itr (fun b q => .inr q) how hdi ck fun v h3 tk3 go => go _ _ fun h4 T4 _ _ rv4 => ?_
      refine su_tgt hh σ2 H2 { s with heap := h4, toks := tk3 } _ T4.inv T4.frm rv4 e3 _ _ fun σ5 h5 tk5 ℓ5 H5 e5 I5 rl5 F5 => ?_
      have T5 := T4.move X.itr (fun _ q => q) rl5 (fun _ => .inl) howf (T4.frm.keepsO T4.inv rl5) I5 F5
      exact Hb ℓ5 σ5 H5 { s with heap := h5, toks := tk5 } kr _ I5 F5 e5 _ _
        ⟨fun σ6 h6 tk6 ℓ6 H6 e6 I6 rl6 F6 => ⟨rest.length, Nat.lt_succ_self _, .mk (i + 1) rest ℓ6 σ6 H6 h6 tk6 hdr (by rw [← hl, List.length_cons]; omega) ⟨T5.move X.itr (fun _ q => q) rl6 (fun _ => .inl) howf (F5.keepsO I5 rl6) I6 F6, e6⟩⟩,
         fun σ6 h6 tk6 u d6 H6 e6 I6 rl6 ru => k.2 σ6 h6 tk6 u d6 H6 e6 I6 (fin (T5.rl.trans (rl6.weak fun _ => .inl))) ru⟩
  exact wpAny_For hw fun x => folded_eq okE'
end
end Mine
namespace Mine
open PySem PySem.W PySem.Calls PyProof.Rows PySem.Spec PySem.SeqAt
section
variable {prog : Program} {w : World} {A : Around} {hb : Heap} {sc : Scope} {env : Env} {ℓ ℓ' : Loc} {kr : KV} {Φ : Loc → PH → Prop} {σ σ1 : Sg} {H H1 : PH} {s : Shared} {h1 : Heap} {tk1 : Nat} {Q : Flow → Shared → Prop}
theorem KtS.after (r : Rl (Own sc env) σ H s.heap σ1 H1 h1) (k : KtS prog w hb sc env kr Φ σ H s Q) : KtS prog w hb sc env kr Φ σ1 H1 { s with heap := h1, toks := tk1 } Q :=
  ⟨fun σ' h' tk' ℓ' H' e I R F => k.1 σ' h' tk' ℓ' H' e I (r.trans R) F, fun σ' h' tk' v d H' e I R rv => k.2 σ' h' tk' v d H' e I (r.trans R) rv⟩
theorem SmS.fail {t : Sem Flow} : SmS prog w hb A sc env t ℓ (fun _ => failC) := fun _ _ _ _ _ _ _ e => e.elim
theorem SmS.at {t : Sem Flow} {m : KV → CM Loc} {q : Pos} (x : SmS prog w hb A sc env t ℓ m) : SmS prog w hb A sc env (standAt q >>= fun _ => t) ℓ m :=
  fun σ H s kr Φ I F e Q E k => wpAny_bind (wpAny_standAt (x σ H s kr Φ I F e Q E k))
theorem SmS.weak {t : Sem Flow} {m m' : KV → CM Loc} (x : SmS prog w hb A sc env t ℓ m) (i : ∀ kr Φ H, m' kr Φ H → m kr Φ H) : SmS prog w hb A sc env t ℓ m' :=
  fun σ H s kr Φ I F e Q E k => x σ H s kr Φ I F (i _ _ _ e) Q E k
theorem ss_execs {ex : Loc → Stmt → KV → CM Loc} {b : List Stmt} : ∀ {ℓ : Loc}, (∀ s ∈ b, ∀ ℓ, SmS prog w hb A sc env (exec s env) ℓ (ex ℓ s)) → SmS prog w hb A sc env (execs b env) ℓ (exL ex b ℓ) := by
  induction b with
  | nil => exact fun _ σ H s kr Φ I F e Q E k => wpAny_execs_nil (k.1 σ s.heap s.toks _ H e I .refl F)
  | cons st rest ih =>
    intro ℓ Hs σ H s kr Φ I F e Q E k
    rw [arm_execs_cons]
    exact wpAny_bind (Hs st (.head _) ℓ σ H s kr _ I F e _ E ⟨fun σ1 h1 tk1 ℓ1 H1 e1 I1 R1 F1 => ih (fun s hs => Hs s (.tail _ hs)) σ1 H1 { s with heap := h1, toks := tk1 } kr Φ I1 F1 e1 Q E (k.after R1),
      fun σ1 h1 tk1 v d H1 e1 I1 R1 rv => wpAny_pure (k.2 σ1 h1 tk1 v d H1 e1 I1 R1 rv)⟩)
theorem ss_if {tr : Expr → CM Bool} {ex : Loc → Stmt → KV → CM Loc} {t : Expr} {b o : List Stmt} {p : Pos} (Ht : Sm prog w hb A (Frm hb sc env ℓ) (isTrue t env (eval t env)) IsB (tr t))
    (Hb : SmS prog w hb A sc env (execs b env) ℓ (exL ex b ℓ)) (Ho : SmS prog w hb A sc env (execs o env) ℓ (exL ex o ℓ)) :
    SmS prog w hb A sc env (exec (.If t b o p) env) ℓ (fun kr => bindC (tr t) fun c => condC c (exL ex b ℓ kr) (exL ex o ℓ kr)) := by
  rw [arm_exec_If]
  refine SmS.at fun σ H s kr Φ I F e Q E k => wpAny_bind (Ht σ H s _ I F e _ E fun c' σ1 h1 tk1 c H1 e1 I1 R1 hc => ?_)
  obtain rfl : c' = c := hc
  have F1 := Frm.stb _ _ _ _ _ _ I R1 I1 F
  cases c' with
  | true => exact Hb σ1 H1 { s with heap := h1, toks := tk1 } kr Φ I1 F1 e1 Q E (k.after R1.own)
  | false => exact Ho σ1 H1 { s with heap := h1, toks := tk1 } kr Φ I1 F1 e1 Q E (k.after R1.own)
theorem ss_ret {ev : Expr → CM PV} {e : Expr} {p : Pos} (He : Sm prog w hb A (Frm hb sc env ℓ) (eval e env) (IsV hb) (ev e)) :
    SmS prog w hb A sc env (exec (.Return (some e) p) env) ℓ (fun kr _ H => ev e kr H) := fun σ H s kr Φ I F e' Q E k =>
  wpAny_Return_some (He σ H s _ I F e' _ E fun v σ1 h1 tk1 d H1 e1 I1 R1 rv => k.2 σ1 h1 tk1 v d H1 e1 I1 R1.own rv)
theorem ss_retNone {p : Pos} : SmS prog w hb A sc env (exec (.Return none p) env) ℓ (fun kr _ H => kr .none H) := fun σ H s kr Φ I F e' Q E k =>
  wpAny_Return_none (k.2 σ s.heap s.toks _ _ H e' I .refl .none)
theorem ss_expr {ev : Expr → CM PV} {f : Expr} {as : List Expr} {ks : List Keyword} {p q : Pos} (He : Sm prog w hb A (Frm hb sc env ℓ) (eval (.Call f as ks p) env) (IsV hb) (ev (.Call f as ks p))) :
    SmS prog w hb A sc env (exec (.Expr (.Call f as ks p) q) env) ℓ (fun _ => bindC (ev (.Call f as ks p)) fun v => bindC (noneC v) fun _ => pureC ℓ) := fun σ H s kr Φ I F e' Q E k => by
  refine wpAny_Expr_any (He σ H s _ I F e' _ E fun v σ1 h1 tk1 d H1 e1 I1 R1 rv => ?_) (by unfold interactive; rw [F.kind]; rfl) rfl
  cases d with
  | none => exact k.1 σ1 h1 tk1 ℓ H1 e1 I1 R1.own (Frm.stb _ _ _ _ _ _ I R1 I1 F)
  | _ => exact e1.elim
inductive WhileS (s : Shared) (P : Nat → Loc → Sg → PH → Heap → Prop) : Nat → Shared → Prop
  | mk (m : Nat) (ℓ : Loc) (σ : Sg) (H : PH) (h : Heap) (tk : Nat) (p : P m ℓ σ H h) : WhileS s P m { s with heap := h, toks := tk }
theorem ss_while {n : Nat} {t : Expr} {b : List Stmt} {p : Pos} (Ht : ∀ k, k ≤ n → ∀ ℓ, Sm prog w hb A (Frm hb sc env ℓ) (isTrue t env (eval t env)) IsB ((lv k).tr sc ℓ t))
    (Hb : ∀ k, k ≤ n → ∀ ℓ, SmS prog w hb A sc env (execs b env) ℓ (exL ((lv k).ex sc) b ℓ)) :
    SmS prog w hb A sc env (exec (.While t b [] p) env) ℓ ((lv (n + 1)).ex sc ℓ (.While t b [] p)) := fun σ H s kr Φ I F e Q E k => by
  refine wpAny_While (codeAny_whileLoop (WhileS s fun m ℓ2 σ2 H2 h2 => m ≤ n + 1 ∧ (Inv hb σ2 H2 h2 ∧ Frm hb sc env ℓ2 σ2 H2 h2 ∧ Rl (Own sc env) σ H s.heap σ2 H2 h2) ∧ (lv m).ex sc ℓ2 (.While t b [] p) kr Φ H2) (fun m s' L => ?_) _
    (.mk (n + 1) ℓ σ H s.heap s.toks ⟨Nat.le_refl _, ⟨I, F, .refl⟩, e⟩))
  obtain ⟨ℓ2, σ2, H2, h2, tk2, hm, ⟨I2, F2, R2⟩, e2⟩ := L
  cases m with
  | zero => exact e2.elim
  | succ m =>
    refine Ht m (by omega) ℓ2 σ2 H2 { s with heap := h2, toks := tk2 } _ I2 F2 e2 _ _ fun c' σ3 h3 tk3 c H3 e3 I3 R3 hc => ?_
    obtain rfl : c' = c := hc
    have F3 := Frm.stb _ _ _ _ _ _ I2 R3 I3 F2
    have R3 := R2.trans R3.own
    cases c' with
    | false => exact wpAny_execs_nil (k.1 σ3 h3 tk3 ℓ2 H3 e3 I3 R3 F3)
    | true =>
      exact Hb m (by omega) ℓ2 σ3 H3 { s with heap := h3, toks := tk3 } kr _ I3 F3 e3 _ _
        ⟨fun σ4 h4 tk4 ℓ4 H4 e4 I4 R4 F4 => ⟨m, Nat.lt_succ_self _, .mk m ℓ4 σ4 H4 h4 tk4 ⟨by omega, ⟨I4, F4, R3.trans R4⟩, e4⟩⟩, fun σ4 h4 tk4 v d H4 e4 I4 R4 rv => k.2 σ4 h4 tk4 v d H4 e4 I4 (R3.trans R4) rv⟩
end
end Mine
namespace Mine
open PySem PySem.W PySem.Calls PyProof.Rows PySem.Spec PySem.SeqAt
section
variable {prog : Program} {w : World} {A : Around} {E : Value → Shared → Prop} {R : Result → Shared → Prop} {s : Shared}
noncomputable def testsFor (ifs : List Expr) (env : Env) (b : Bool) : Sem Bool :=
  forIn ifs b fun c r => if r = true then do let ok ← isTrue c env (eval c env); pure (ForInStep.yield ok) else pure (ForInStep.yield r)
theorem code_compLoop {elt target iter : Expr} {ifs : List Expr} {scope : Scope} {pos : Pos} {it acc : Value} {env : Env} (I : Nat → Shared → Prop)
    (turn : ∀ n s, I n s → wpAny (model prog w) A (pyNext it) (fun r s₁ => match r with
      | none => R (.ok .next) s₁
      | some v => wpAny (model prog w) A (letOwnedTupleGo target it v) (fun _ s₁' => wpAny (model prog w) A (assign target env v) (fun _ s₂ =>
          wpAny (model prog w) A (testsFor ifs env true) (fun ok s₃ =>
            if ok = true then wpAny (model prog w) A (eval elt env) (fun x s₄ =>
              wpAny (model prog w) A (call (.builtin "list.append") [acc, x]) (fun _ s₅ => ∃ m, m < n ∧ I m s₅) (notedBy (model prog w) A env fun e s' => R (.error e) s') s₄) (notedBy (model prog w) A env fun e s' => R (.error e) s') s₃
            else ∃ m, m < n ∧ I m s₃) (notedBy (model prog w) A env fun e s' => R (.error e) s') s₂) (notedBy (model prog w) A env fun e s' => R (.error e) s') s₁') (notedBy (model prog w) A env fun e s' => R (.error e) s') s₁) (notedBy (model prog w) A env fun e s' => R (.error e) s') s)
    (n : Nat) (h : I n s) :
    codeAny (model prog w) A (.compLoop (.ListComp elt [⟨target, iter, ifs, 0⟩] scope pos) 0 it acc env) R s := by
  refine codeAny_loop rfl I (fun n s hI => ?_) n h
  show wpAny _ A ((compTurn (.ListComp elt [⟨target, iter, ifs, 0⟩] scope pos) 0 it acc env).onRaise (fun x => do noteFrame x env; theTreesLotGoes x)) _ _ s
  refine wpAny_noted ?_
  rw [compTurn_list]
  refine wpAny_bind (wpAny_standAt (wpAny_bind (wpAny_mono (turn n s hI) (fun r s₁ h₁ => ?_) fun _ _ h' => h')))
  cases r with
  | none => exact wpAny_pure h₁
  | some v =>
    refine wpAny_bind (wpAny_mono h₁ (fun _ s₁' h₁' => ?_) fun _ _ h' => h')
    refine wpAny_bind (wpAny_mono h₁' (fun _ s₂ h₂ => wpAny_bind (wpAny_mono h₂ (fun ok s₃ h₃ => ?_) fun _ _ h' => h')) fun _ _ h' => h')
    cases ok with
    | false => exact wpAny_pure ⟨rfl, h₃⟩
    | true =>
      exact wpAny_bind (wpAny_bind (wpAny_mono h₃ (fun x s₄ h₄ => wpAny_bind (wpAny_mono h₄ (fun _ s₅ h₅ => wpAny_pure (wpAny_pure ⟨rfl, h₅⟩)) fun _ _ h' => h')) fun _ _ h' => h'))
end
section
variable {prog : Program} {w : World} {A : Around} {hb : Heap} {tgt : Expr} {sc : Scope} {env : Env} {ℓ : Loc} {P : Pr} {src : Src} {items : List PV} {V : Sg → PH → Heap → Prop} {R : Run}
theorem tests_cons {c : Expr} {r : List Expr} {b : Bool} : testsFor (c :: r) env b = if b = true then (isTrue c env (eval c env) >>= fun ok => testsFor r env ok) else testsFor r env b := by
  unfold testsFor
  rw [List.forIn_cons]
  cases b with
  | false => rw [if_neg Bool.false_ne_true, if_neg Bool.false_ne_true, pure_bind]
  | true => rw [if_pos rfl, if_pos rfl, bind_assoc]; exact congrArg _ (funext fun _ => pure_bind ..)
theorem sm_tests_false {ifs : List Expr} : Sm prog w hb A P (testsFor ifs env false) IsB (pureC false) := by
  induction ifs with
  | nil => exact Sm.pure fun _ _ _ _ => rfl
  | cons c r ih => rw [tests_cons, if_neg Bool.false_ne_true]; exact ih
theorem sm_tests {tr : Expr → CM Bool} (st : Stb hb P) {ifs : List Expr} : (∀ c ∈ ifs, Sm prog w hb A P (isTrue c env (eval c env)) IsB (tr c)) → Sm prog w hb A P (testsFor ifs env true) IsB (testsC tr ifs) := by
  induction ifs with
  | nil => exact fun _ => Sm.pure fun _ _ _ _ => rfl
  | cons c r ih =>
    intro Hc
    rw [tests_cons, if_pos rfl]
    refine (Hc c (.head _)).bind (Sm.bool fun b => ?_) st
    cases b with
    | true => exact ih fun c hc => Hc c (.tail _ hc)
    | false => exact sm_tests_false
theorem list_notVal {l : Array Value} {n : Nat} : NotVal (W.listOf l n) := ⟨fun e => absurd (Value.type.inj e) (by decide), fun e => absurd (Value.type.inj e) (by decide)⟩
structure Accu (hb : Heap) (acc : Addr) (vs : List Value) (n : Nat) (ds : List PV) (σ : Sg) (H : PH) (h : Heap) : Prop where
  at_ : h.get? acc = some (W.listOf vs.toArray n)
  rvs : RVs hb h σ H.next vs ds
theorem Accu.move {acc vs n ds σ H h σ' H' h'} {Y : Addr → Prop} (a : Accu hb acc vs n ds σ H h) (r : Rl Y σ H h σ' H' h') (nY : ¬ Y acc) (nm : ¬ Mut σ H.next acc) (K : Keeps2 h σ H.next h' σ' H'.next) : Accu hb acc vs n ds σ' H' h' :=
  ⟨r.keep _ _ a.at_ nY nm, a.rvs.mono K⟩
inductive CompP (hb : Heap) (sc : Scope) (env : Env) (V : Sg → PH → Heap → Prop) (R : Run) (acc : Addr) (src : Src) (f : PV → Loc → CM (List PV × Loc)) (Φ : List PV → PH → Prop) (σ0 : Sg) (H0 : PH) (h0 : Heap) (i : Nat) (rest : List PV) (ℓ : Loc) (σ : Sg) (H : PH) (h : Heap) : Prop
  | mk (vs : List Value) (n : Nat) (ds : List PV) (K : List PV → PH → Prop) (T : Turn hb sc env V R (fun b => b = env.locals ∨ b = acc ∨ b ∈ R.wr) (acc :: R.fp) σ0 H0 h0 i ℓ σ H h) (a : Accu hb acc vs n ds σ H h) (len : ds.length ≤ i) (e : loopC src f rest ℓ K H) (k : ∀ l H, K l H → Φ (ds ++ l) H)
noncomputable abbrev compF (r : Lv) (sc : Scope) (tgt elt : Expr) (ifs : List Expr) (v : PV) (ℓ' : Loc) : CM (List PV × Loc) := bindC (bindTgt sc ℓ' v tgt) fun ℓ'' => bindC (testsC (r.tr sc ℓ'') ifs) fun b => condC b (bindC (r.ev sc ℓ'' elt) fun y => pureC ([y], ℓ'')) (pureC ([], ℓ''))
theorem comp_loop {r : Lv} {elt iter : Expr} {ifs : List Expr} {pos : Pos} {acc : Addr} {σ1 : Sg} {H1 : PH} {s : Shared} {Φ : List PV → PH → Prop} {n0 : Nat} {RR : Result → Shared → Prop} (hh : A.handled = none)
    (He : ∀ ℓ e, Sm prog w hb A (Frm hb sc env ℓ) (eval e env) (IsV hb) (r.ev sc ℓ e)) (Ht : ∀ ℓ e, Sm prog w hb A (Frm hb sc env ℓ) (isTrue e env (eval e env)) IsB (r.tr sc ℓ e))
    (itr : Itr prog w A hb tgt src items V R) (hlen : items.length ≤ 1000) (I1 : Inv hb σ1 H1 s.heap) (F1 : Frm hb sc env ℓ σ1 H1 s.heap) (st1 : R.St 0 s.heap) (val1 : V σ1 H1 s.heap)
    (hfp : ∀ b ∈ R.fp, ¬ Mut σ1 H1.next b ∧ ¬ OwnAll env b ∧ b ≠ acc) (hnc : ∀ x, sc.names.lookup x ≠ some .cell)
    (ha0 : hb.get? acc = none) (ha1 : s.heap.get? acc = some (W.listOf (([] : List Value)).toArray n0)) (ha2 : ¬ Mut σ1 H1.next acc) (ha3 : ¬ OwnAll env acc)
    (e : loopC src (compF r sc tgt elt ifs) items ℓ Φ H1)
    (K : ∀ σ2 H2 h2 tk2 vs n l, Φ l H2 → Inv hb σ2 H2 h2 → Rl (fun b => b = env.locals ∨ b = acc ∨ b ∈ R.wr) σ1 H1 s.heap σ2 H2 h2 → (∃ m, h2.Ns env.locals m) → Accu hb acc vs n l σ2 H2 h2 → ¬ Mut σ2 H2.next acc → ¬ Mut σ2 H2.next env.locals → RR (.ok .next) { s with heap := h2, toks := tk2 }) :
    codeAny (model prog w) A (.compLoop (.ListComp elt [⟨tgt, iter, ifs, 0⟩] sc pos) 0 (.ref R.I) (.ref acc) env) RR s := by
  have ownL : ∀ b, Own sc env b → b = env.locals ∨ b = acc ∨ b ∈ R.wr := fun b q => .inl (q.elim id fun ⟨x, _, q⟩ => absurd q (hnc x))
  have how : ∀ b ∈ R.wr, ¬ OwnAll env b := fun b hb' => (hfp b (itr.sub b hb')).2.1
  have accFp : acc ∉ R.fp := fun q => (hfp acc q).2.2 rfl
  have accWr : acc ∉ R.wr := fun q => accFp (itr.sub acc q)
  have all : ∀ {p : Addr → Prop}, p acc → (∀ b ∈ R.fp, p b) → ∀ b ∈ acc :: R.fp, p b := fun h1 h2 b q => (List.mem_cons.mp q).elim (fun q => q ▸ h1) (h2 b)
  have nOwn : ∀ b ∈ acc :: R.fp, ¬ Own sc env b := all (fun q => ha3 q.all) fun b hb' q => (hfp b hb').2.1 q.all
  have sub : ∀ b ∈ R.fp, b ∈ acc :: R.fp := fun _ q => .tail _ q
  refine code_compLoop (LoopS s items (CompP hb sc env V R acc src (compF r sc tgt elt ifs) Φ σ1 H1 s.heap)) (fun m s' L => ?_) _
    (.mk 0 items ℓ σ1 H1 s.heap s.toks rfl (Nat.zero_add _) ⟨[], n0, [], Φ, ⟨I1, F1, st1, val1, .refl, all ha2 fun b hb' => (hfp b hb').1, all ⟨_, ha1⟩ (itr.all 0 _ st1)⟩, ⟨ha1, .nil⟩, Nat.le_refl _, e, fun _ _ e => e⟩)
  obtain ⟨i, rest, ℓ2, σ2, H2, h2, tk2, hd, hl, vs, n, ds, KK, T, a, hds, e3, hk⟩ := L
  cases rest with
  | nil =>
    obtain ⟨ck, e3⟩ := e3
    obtain rfl : i = items.length := hl
    refine itr.done σ2 H2 { s with heap := h2, toks := tk2 } _ _ T.st T.val T.inv ck fun h3 tk3 keep => ?_
    have here2 := itr.here _ h2 T.st
    have K2 := keeps_priv (σ := σ2) (H := H2) here2 keep
    obtain ⟨m, hn, _⟩ := T.frm.ns
    exact K σ2 H2 h3 tk3 vs n ds (List.append_nil ds ▸ hk _ _ e3) (T.inv.priv here2 itr.base keep) (T.rl.trans (rl_priv keep fun b q => .inr (.inr q))) ⟨m, hn.at' fun o e => keep _ _ e fun q => how _ q (.inl rfl)⟩ ⟨keep _ _ a.at_ accWr, a.rvs.mono K2⟩ (T.fp _ (.head _)) T.frm.own
  | cons d rest =>
    obtain ⟨hdi, hdr⟩ := drop_at hd
    obtain ⟨ck, e3⟩ := e3
    have hl' : i + 1 + rest.length = items.length := by rw [← hl, List.length_cons]; omega
    refine T.step (s := { s with heap := h2, toks := tk2 }) itr (fun b q => .inr (.inr q)) how hdi ck fun v h3 tk3 go => go _ _ fun h4 T4 keep24 K24 rv4 => ?_
    have a4 : Accu hb acc vs n ds σ2 H2 h4 := ⟨keep24 _ _ a.at_ accWr, a.rvs.mono K24⟩
    refine su_tgt hh σ2 H2 { s with heap := h4, toks := tk3 } _ T4.inv T4.frm rv4 e3 _ _ fun σ5 h5 tk5 ℓ5 H5 e5 I5 rl5 F5 => ?_
    have K45 := T4.frm.keepsO T4.inv rl5
    have T5 := T4.move itr sub rl5 ownL nOwn K45 I5 F5
    have a5 := a4.move rl5 (nOwn _ (.head _)) (T4.fp _ (.head _)) K45
    refine sm_tests Frm.stb (fun c _ => Ht ℓ5 c) σ5 H5 { s with heap := h5, toks := tk5 } _ I5 F5 e5 _ _ fun b' σ6 h6 tk6 b H6 e6 I6 rl6 hb6 => ?_
    obtain rfl : b' = b := hb6
    have K56 := rl6.keeps I5
    have T6 := T5.move itr sub rl6 (fun _ q => q.elim) (fun _ _ q => q) K56 I6 (Frm.stb _ _ _ _ _ _ I5 rl6 I6 F5)
    have a6 := a5.move rl6 id (T5.fp _ (.head _)) K56
    cases b' with
    | false =>
      rw [if_neg Bool.false_ne_true]
      exact ⟨rest.length, Nat.lt_succ_self _, .mk (i + 1) rest ℓ5 σ6 H6 h6 tk6 hdr hl' ⟨vs, n, ds, _, T6, a6, Nat.le_succ_of_le hds, e6, fun l H q => hk _ _ q⟩⟩
    | true =>
      rw [if_pos rfl]
      refine He ℓ5 elt σ6 H6 { s with heap := h6, toks := tk6 } _ I6 T6.frm e6 _ _ fun yv σ7 h7 tk7 y H7 e7 I7 rl7 ry => ?_
      have K67 := rl7.keeps I6
      have T7 := T6.move itr sub rl7 (fun _ q => q.elim) (fun _ _ q => q) K67 I7 (Frm.stb _ _ _ _ _ _ I6 rl7 I7 T6.frm)
      have a7 := a6.move rl7 id (T6.fp _ (.head _)) K67
      have hvl := a7.rvs.length
      refine append_at a7.at_ (fun h8 same acc8 => ?_) (size_le (by rw [List.size_toArray]; omega))
      have keep8 : Step [acc] h7 h8 := fun b o e q => (same.2 b fun z => q (z ▸ .head _)).trans e
      have nv : ∀ a o, h7.get? a = some o → a = acc → NotVal o := fun a o e q => Option.some.inj (a7.at_.symm.trans (q ▸ e)) ▸ list_notVal
      have x8 : Ext (fun b => b = acc) h7 h8 := ⟨fun b o e q => (same.2 b q).trans e⟩
      have K78 : Keeps2 h7 σ7 H7.next h8 σ7 H7.next := ⟨Nat.le_refl _, fun _ _ => rfl, fun a o e c ⟨vs, n, d⟩ => x8.keep a o e fun z => (nv a o e z).1 c vs n d, fun a o e c ⟨x, d⟩ => x8.keep a o e fun z => (nv a o e z).2 c x d⟩
      have ne : ∀ b ∈ R.fp, b ≠ acc := fun b hb' => (hfp b hb').2.2
      have T8 : Turn hb sc env V R (fun b => b = env.locals ∨ b = acc ∨ b ∈ R.wr) (acc :: R.fp) σ1 H1 s.heap (i + 1) ℓ5 σ7 H7 h8 :=
        ⟨T7.inv.ext x8 (fun b q => q ▸ T7.fp _ (.head _)) (fun b q => q ▸ ha0) nv, T7.frm.but K78 (all1 ha3) keep8, itr.frame _ _ _ T7.st fun b hb' o e => x8.keep b o e (ne b hb'), itr.valUp _ _ _ _ _ _ T7.val K78,
          T7.rl.trans (.of_ext (x8.weak fun b q => .inr (.inl q))), T7.fp, all ⟨_, acc8⟩ fun b hb' => let ⟨o, ho⟩ := T7.there b (sub b hb'); ⟨o, x8.keep b o ho (ne b hb')⟩⟩
      exact ⟨rest.length, Nat.lt_succ_self _, .mk (i + 1) rest ℓ5 σ7 H7 h8 tk7 hdr hl' ⟨vs ++ [yv], n + 1, ds ++ [y], _, T8, ⟨by rw [acc8, List.push_toArray], (a7.rvs.append (.cons ry .nil)).mono K78⟩, by rw [List.length_append]; exact Nat.succ_le_succ hds, e7, fun l H q => by rw [List.append_assoc]; exact hk _ _ q⟩⟩
end
end Mine
namespace Mine
open PySem PySem.W PySem.Calls PyProof.Rows PySem.Spec PySem.SeqAt
noncomputable def clOf (env : Env) : List (Str × NameKind) → List (Str × Addr) → List (Str × Addr)
  | [], acc => acc
  | (n, k) :: r, acc => if k == .free then clOf env r ((n, (env.cells.lookup n).getD 0) :: acc) else clOf env r acc
section
variable {env : Env}
theorem clOf_cons {n k r acc} : clOf env ((n, k) :: r) acc = if k = .free then clOf env r ((n, (env.cells.lookup n).getD 0) :: acc) else clOf env r acc := by cases k <;> rfl
theorem closure_run {names : List (Str × NameKind)} : ∀ (acc : List (Str × Addr)), (∀ x ∈ names, x.2 = .free → ∃ c, env.cells.lookup x.1 = some c) →
    (forIn names acc fun (x : Str × NameKind) (cs : List (Str × Addr)) => (if x.2 == .free then do let c ← cellOf env x.1; pure (ForInStep.yield ((x.1, c) :: cs)) else pure (ForInStep.yield cs) : Sem (ForInStep (List (Str × Addr))))) = pure (clOf env names acc) := by
  induction names with
  | nil => exact fun acc _ => rfl
  | cons x r ih =>
    intro acc h
    have ih := fun acc => ih acc fun x hx => h x (.tail _ hx)
    obtain ⟨n, k⟩ := x
    rw [List.forIn_cons, clOf_cons]
    by_cases hk : k = .free
    · obtain ⟨c, hc⟩ := h (n, k) (.head _) hk
      have hc : env.cells.lookup n = some c := hc
      have e1 : cellOf env n = pure c := by unfold cellOf; rw [hc]
      rw [if_pos hk, hc, if_pos (show ((n, k).2 == NameKind.free) = true by rw [hk]; rfl), e1, pure_bind, pure_bind]
      exact ih _
    · rw [if_neg hk, if_neg (show ¬ ((n, k).2 == NameKind.free) = true from fun q => hk (eq_of_beq q)), pure_bind]
      exact ih _
theorem closureFor_is {scope : Scope} (h : ∀ x ∈ scope.names, x.2 = .free → ∃ c, env.cells.lookup x.1 = some c) : closureFor scope env = pure (clOf env scope.names []) := by
  have := closure_run (names := scope.names) [] h
  unfold closureFor
  rw [bind_pure]
  exact this
theorem clOf_mem {x : Str} {c : Addr} {names : List (Str × NameKind)} : ∀ {acc : List (Str × Addr)}, (x, c) ∈ clOf env names acc → (x, c) ∈ acc ∨ ((x, NameKind.free) ∈ names ∧ c = (env.cells.lookup x).getD 0) := by
  induction names with
  | nil => exact fun h => .inl h
  | cons y r ih =>
    obtain ⟨n, k⟩ := y
    intro acc h
    rw [clOf_cons] at h
    by_cases hk : k = .free
    · rw [if_pos hk] at h
      rcases ih h with q | ⟨q, e⟩
      · rcases List.mem_cons.mp q with q | q
        · obtain ⟨q1, q2⟩ := Prod.mk.inj q
          exact .inr ⟨by rw [q1, ← hk]; exact .head _, by rw [q1]; exact q2⟩
        · exact .inl q
      · exact .inr ⟨.tail _ q, e⟩
    · rw [if_neg hk] at h
      exact (ih h).imp id fun q => ⟨.tail _ q.1, q.2⟩
theorem clOf_acc {p : Str × Addr} {names : List (Str × NameKind)} : ∀ {acc : List (Str × Addr)}, p ∈ acc → p ∈ clOf env names acc := by
  induction names with
  | nil => exact id
  | cons y r ih =>
    intro acc h
    obtain ⟨n, k⟩ := y
    rw [clOf_cons]
    by_cases hk : k = .free
    · rw [if_pos hk]; exact ih (.tail _ h)
    · rw [if_neg hk]; exact ih h
theorem clOf_has {x : Str} {names : List (Str × NameKind)} : ∀ {acc : List (Str × Addr)}, (x, NameKind.free) ∈ names → (x, (env.cells.lookup x).getD 0) ∈ clOf env names acc := by
  induction names with
  | nil => exact fun h => nomatch h
  | cons y r ih =>
    intro acc h
    obtain ⟨n, k⟩ := y
    rw [clOf_cons]
    rcases List.mem_cons.mp h with q | q
    · obtain ⟨q1, q2⟩ := Prod.mk.inj q
      rw [if_pos q2.symm, q1]; exact clOf_acc (.head _)
    · by_cases hk : k = .free
      · rw [if_pos hk]; exact ih q
      · rw [if_neg hk]; exact ih q
theorem distinct_not {x : Str} {r : List Str} (h : distinct (x :: r) = true) : x ∉ r ∧ distinct r = true := by
  obtain ⟨h1, h2⟩ := Bool.and_eq_true_iff.mp (show (!r.contains x && distinct r) = true from h)
  exact ⟨fun q => absurd (List.contains_iff_mem.mpr q) (by rw [(Bool.not_eq_true' _).mp h1]; exact Bool.false_ne_true), h2⟩
theorem clOf_nodup {names : List (Str × NameKind)} : ∀ {acc : List (Str × Addr)}, distinct (names.map (·.1)) = true → (acc.map (·.1)).Nodup → (∀ x ∈ names.map (·.1), x ∉ acc.map (·.1)) → ((clOf env names acc).map (·.1)).Nodup := by
  induction names with
  | nil => exact fun _ h _ => h
  | cons y r ih =>
    intro acc hd h ha
    obtain ⟨n, k⟩ := y
    obtain ⟨h1, h2⟩ := distinct_not hd
    rw [clOf_cons]
    by_cases hk : k = .free
    · rw [if_pos hk]
      refine ih h2 (List.nodup_cons.mpr ⟨ha n (.head _), h⟩) fun x hx q => (List.mem_cons.mp q).elim (fun q => h1 (show n ∈ _ from (show x = n from q) ▸ hx)) (ha x (.tail _ hx))
    · rw [if_neg hk]
      exact ih h2 h fun x hx => ha x (.tail _ hx)
end
theorem look_mapk {g : Str → NameKind → NameKind} {x : Str} {l : List (Str × NameKind)} : (l.map fun p => (p.1, g p.1 p.2)).lookup x = (l.lookup x).map (g x) := by
  induction l with
  | nil => rfl
  | cons y r ih =>
    rw [List.map_cons, List.lookup_cons, List.lookup_cons]
    by_cases h : x = y.1
    · rw [h, beq_self_eq_true]; rfl
    · rw [beq_false_of_ne h]; exact ih
theorem mem_look_distinct {α : Type} {x : Str} {k : α} {l : List (Str × α)} : distinct (l.map (·.1)) = true → (x, k) ∈ l → l.lookup x = some k := by
  induction l with
  | nil => exact fun _ h => nomatch h
  | cons y r ih =>
    intro hd h
    obtain ⟨h1, h2⟩ := distinct_not hd
    rw [List.lookup_cons]
    rcases List.mem_cons.mp h with q | q
    · rw [← q, beq_self_eq_true]
    · rw [beq_false_of_ne fun z : x = y.1 => h1 (List.mem_map.mpr ⟨_, q, z⟩)]
      exact ih h2 q
structure CompOk (sc csc : Scope) : Prop where
  kind : csc.kind = .function
  nd : distinct (csc.names.map (·.1)) = true
  nocell : ∀ x ∈ csc.names, x.2 ≠ .cell
  free : ∀ x ∈ csc.names, x.2 = .free → sc.names.lookup x.1 = some .cell ∨ sc.names.lookup x.1 = some .free
theorem compOk_is {sc csc : Scope} (h : compOk sc csc = true) : CompOk sc csc := by
  unfold compOk at h
  rw [Bool.and_eq_true, Bool.and_eq_true, List.all_eq_true] at h
  obtain ⟨⟨h1, h2⟩, h3⟩ := h
  refine ⟨eq_of_beq h1, h2, fun x hx e => ?_, fun x hx hf => ?_⟩
  · have := h3 x hx
    rw [e] at this
    exact nomatch this
  · have := (Bool.and_eq_true_iff.mp (h3 x hx)).2
    rw [hf] at this
    exact (Bool.or_eq_true_iff.mp this).imp eq_of_beq eq_of_beq
section
variable {hb : Heap} {sc csc : Scope} {env : Env} {ℓ : Loc} {σ : Sg} {H : PH} {h : Heap}
noncomputable def locC (csc : Scope) (ℓ : Loc) : Loc := locF (freeN csc) ℓ
theorem locC_some (nd : distinct (csc.names.map (·.1)) = true) {x : Str} {v : PV} (e : locC csc ℓ x = some v) : csc.names.lookup x = some .free ∧ ℓ x = some v := by
  unfold locC locF at e
  by_cases h : (freeN csc).contains x = true
  · rw [if_pos h] at e
    refine ⟨?_, e⟩
    obtain ⟨p, hp, hq⟩ := List.mem_filterMap.mp (List.contains_iff_mem.mp h)
    by_cases hf : (p.2 == NameKind.free) = true
    · rw [if_pos hf] at hq
      exact mem_look_distinct nd (by rw [← eq_of_beq hf, ← Option.some.inj hq]; exact hp)
    · rw [if_neg hf] at hq; exact nomatch hq
  · rw [if_neg h] at e; exact nomatch e
theorem Frm.outer (F : Frm hb sc env ℓ σ H h) (O : CompOk sc csc) {x : Str} (hx : (x, NameKind.free) ∈ csc.names) : (env.kindOf x = some .cell ∨ env.kindOf x = some .free) ∧ ∃ c, env.cells.lookup x = some c := by
  have hk : env.kindOf x = some .cell ∨ env.kindOf x = some .free := by
    rcases O.free _ hx rfl with q | q
    · exact .inl ((F.sc.at_ x _ q).resolve_right fun z => nomatch z.1)
    · exact (F.sc.at_ x _ q).elim .inr fun z => .inl z.2
  exact ⟨hk, F.cells x hk⟩
theorem Frm.clos (F : Frm hb sc env ℓ σ H h) (O : CompOk sc csc) : closureFor csc env = pure (clOf env csc.names []) := closureFor_is fun x hx hf => (F.outer O (x := x.1) (hf ▸ hx)).2
theorem Frm.clAt (F : Frm hb sc env ℓ σ H h) (O : CompOk sc csc) {x : Str} {c : Addr} (q : (x, c) ∈ clOf env csc.names []) : env.cells.lookup x = some c := by
  rcases clOf_mem q with q | ⟨q, e⟩
  · exact nomatch q
  · obtain ⟨_, c', hc'⟩ := F.outer O q
    rw [e, hc']; rfl
noncomputable def kindC (env : Env) (x : Str) (k : NameKind) : NameKind := if (k == .free && env.scope.kind == .function && env.kindOf x == some .cell) = true then .cell else k
theorem kindC_map {l : List (Str × NameKind)} : (l.map fun (n, k) => if (k == .free && env.scope.kind == .function && env.kindOf n == some .cell) = true then (n, NameKind.cell) else (n, k)) = l.map fun p => (p.1, kindC env p.1 p.2) := by
  apply List.map_congr_left
  intro p _
  unfold kindC
  by_cases q : (p.2 == .free && env.scope.kind == .function && env.kindOf p.1 == some .cell) = true
  · rw [if_pos q]; exact if_pos q
  · rw [if_neg q]; exact if_neg q
theorem Frm.comp (F : Frm hb sc env ℓ σ H h) (O : CompOk sc csc) {C : Addr} (hC : h.Ns C fun _ => none) (hm : ¬ Mut σ H.next C) (hb0 : hb.get? C = none) : Frm hb csc (compEnvC csc (clOf env csc.names []) C env) (locC csc ℓ) σ H h := by
  have eK : ∀ x, (compEnvC csc (clOf env csc.names []) C env).kindOf x = (csc.names.lookup x).map (kindC env x) := fun x => (congrArg (List.lookup x) kindC_map).trans look_mapk
  have nd := clOf_nodup (env := env) (names := csc.names) (acc := []) O.nd List.nodup_nil fun _ _ q => nomatch q
  have isFree : ∀ x, ((compEnvC csc (clOf env csc.names []) C env).kindOf x = some .cell ∨ (compEnvC csc (clOf env csc.names []) C env).kindOf x = some .free) → csc.names.lookup x = some .free := fun x q => by
    rw [eK] at q
    cases hl : csc.names.lookup x with
    | none => rw [hl] at q; exact q.elim (fun q => nomatch q) fun q => nomatch q
    | some k =>
      rw [hl] at q
      cases k with
      | free => rfl
      | cell => exact absurd rfl (O.nocell _ (mem_of_look hl))
      | _ => exact q.elim (fun q => nomatch q) fun q => nomatch q
  have look : ∀ x, csc.names.lookup x = some .free → ∃ c, (clOf env csc.names []).lookup x = some c ∧ env.cells.lookup x = some c := fun x q => by
    have := lookup_of_mem_nodup nd (clOf_has (env := env) (acc := []) (mem_of_look q))
    obtain ⟨_, c, hc⟩ := F.outer O (mem_of_look q)
    rw [hc] at this
    exact ⟨c, this, hc⟩
  refine ⟨⟨fun x k q => ?_⟩, O.kind, F.glob, F.bi, ⟨_, hC, fun x v e q => ?_⟩, fun x v e q => ?_, fun x q => let ⟨c, h1, _⟩ := look x (isFree x q); ⟨c, h1⟩, fun x c q => F.cellAt x c (mem_of_look (F.clAt O q)), ?_, hm, hb0, fun x c q => F.cbase x c (mem_of_look (F.clAt O q))⟩
  · rw [eK, q, Option.map_some]
    unfold kindC
    by_cases hk : (k == .free && env.scope.kind == .function && env.kindOf x == some .cell) = true
    · rw [if_pos hk]
      exact .inr ⟨eq_of_beq (Bool.and_eq_true_iff.mp (Bool.and_eq_true_iff.mp hk).1).1, rfl⟩
    · rw [if_neg hk]; exact .inl rfl
  · obtain ⟨hl, _⟩ := locC_some O.nd e
    rw [eK, hl, Option.map_some] at q
    unfold kindC at q
    by_cases hk : (NameKind.free == .free && env.scope.kind == .function && env.kindOf x == some .cell) = true
    · rw [if_pos hk] at q; exact nomatch q
    · rw [if_neg hk] at q; exact nomatch q
  · obtain ⟨hf, e⟩ := locC_some O.nd e
    obtain ⟨c, h1, h2⟩ := look x hf
    obtain ⟨c', cv, g1, g2, g3⟩ := F.cell x v e (F.outer O (mem_of_look hf)).1
    obtain rfl := Option.some.inj (h2.symm.trans g1)
    exact ⟨c, cv, h1, g2, g3⟩
  · exact (List.pairwise_map.mp nd).imp_of_mem fun {x y} hx hy hne he => hne (name_of_addr F.apart (mem_of_look (F.clAt O (x := x.1) (c := x.2) hx)) (he ▸ mem_of_look (F.clAt O (x := y.1) (c := y.2) hy)))
end
end Mine
namespace Mine
open PySem PySem.W PySem.Calls PyProof.Rows PySem.Spec PySem.SeqAt
section
variable {prog : Program} {w : World} {A : Around} {hb : Heap} {tgt : Expr} {sc csc : Scope} {env : Env} {ℓ : Loc} {σ : Sg} {H : PH} {h : Heap}
theorem Inv.adopt (I : Inv hb σ H h) {a : Addr} {vs : List Value} {n : Nat} {l : List PV} (h0 : hb.get? a = none) (hm : ¬ Mut σ H.next a) (ac : Accu hb a vs n l σ H h) :
    ∃ σ', Inv hb σ' (H.push (.list l)) h ∧ Rl (fun b => b = a) σ H h σ' (H.push (.list l)) h ∧ RV hb h σ' (H.push (.list l)).next (.ref a) (.obj H.next) ∧ ∀ b, b ≠ a → ¬ Mut σ H.next b → ¬ Mut σ' (H.push (.list l)).next b := by
  have old : ∀ i, i < H.next → sgUpd σ H.next (a, a) i = σ i := fun i hi => sgUpd_ne (Nat.ne_of_lt hi)
  have k2 : Keeps2 h σ H.next h (sgUpd σ H.next (a, a)) (H.next + 1) := ⟨Nat.le_succ _, old, fun _ _ e _ _ => e, fun _ _ e _ _ => e⟩
  have ne : ∀ i, i < H.next → (σ i).1 ≠ a ∧ (σ i).2 ≠ a := fun i hi => ⟨fun e => hm ⟨i, hi, .inl e.symm⟩, fun e => hm ⟨i, hi, .inr e.symm⟩⟩
  refine ⟨sgUpd σ H.next (a, a), ⟨I.keep, fun i hi => ?_, fun i hi => ?_, fun i hi => ?_, fun i j hi hj hij => ?_⟩, ⟨Nat.le_succ _, old, fun b o e _ _ => e, fun b o e _ => ⟨o, e⟩, fun i h1 h2 => ?_⟩, ?_, fun b hb' hmb ⟨i, hi, hbi⟩ => ?_⟩
  · rw [push_get_gt (Nat.lt_of_succ_le hi)]; exact I.out i (Nat.le_of_succ_le hi)
  · rcases ltS hi with hi | rfl
    · obtain ⟨o', ho, r'⟩ := I.dom i hi
      exact ⟨o', by rw [push_get_lt hi]; exact ho, by rw [old i hi]; exact r'.mono k2 (fun x q => q) fun x q => q⟩
    · exact ⟨.list l, push_get_self, by rw [sgUpd_at]; exact ⟨vs, n, ac.at_, rfl, ac.rvs.mono k2⟩⟩
  · rcases ltS hi with hi | rfl
    · rw [old i hi]; exact I.above i hi
    · rw [sgUpd_at]; exact ⟨h0, h0⟩
  · rcases ltS hi with hi | rfl <;> rcases ltS hj with hj | rfl
    · rw [old i hi, old j hj]; exact I.inj i j hi hj hij
    · rw [old i hi, sgUpd_at]; exact ⟨(ne i hi).1, (ne i hi).1, (ne i hi).2⟩
    · rw [old j hj, sgUpd_at]; exact ⟨(ne j hj).1.symm, (ne j hj).2.symm, (ne j hj).2.symm⟩
    · exact absurd rfl hij
  · obtain rfl : i = H.next := Nat.le_antisymm (Nat.le_of_lt_succ h2) h1
    rw [sgUpd_at]; exact ⟨fun _ _ => rfl, fun _ _ => rfl⟩
  · have := RV.obj (hb := hb) (h := h) (σ := sgUpd σ H.next (a, a)) (nx := H.next + 1) (i := H.next) (Nat.lt_succ_self _)
    rw [sgUpd_at] at this
    exact this
  · rcases ltS hi with hi | rfl
    · rw [old i hi] at hbi; exact hmb ⟨i, hi, hbi⟩
    · rw [sgUpd_at] at hbi
      exact hbi.elim hb' hb'
theorem Frm.compOwn (F : Frm hb sc env ℓ σ H h) (O : CompOk sc csc) {C a : Addr} (q : OwnAll (compEnvC csc (clOf env csc.names []) C env) a) : a = C ∨ OwnAll env a :=
  q.imp id fun ⟨x, q⟩ => .inr ⟨x, mem_of_look (F.clAt O q)⟩
theorem loopC_chk {src : Src} {f : PV → Loc → CM (List PV × Loc)} {items : List PV} {Φ : List PV → PH → Prop} (e : loopC src f items ℓ Φ H) : src.chk H := by
  cases items with
  | nil => exact e.1
  | cons _ _ => exact e.1
theorem comp_body {r : Lv} {elt iter : Expr} {ifs : List Expr} {pos : Pos} {src : Src} {items : List PV} {V : Sg → PH → Heap → Prop} {R : Run} {σ1 : Sg} {H1 : PH} {h1 h4 : Heap} {tk : Nat} {s : Shared} {Φ : KV} {RR : Result → Shared → Prop} (hh : A.handled = none) (O : CompOk sc csc)
    (Hi : ∀ env ℓ e, Sm prog w hb A (Frm hb csc env ℓ) (eval e env) (IsV hb) (r.ev csc ℓ e)) (Ht : ∀ env ℓ e, Sm prog w hb A (Frm hb csc env ℓ) (isTrue e env (eval e env)) IsB (r.tr csc ℓ e))
    (F1 : Frm hb sc env ℓ σ1 H1 h1) (X : Ready prog w A hb tgt env σ H s.heap src items V R σ1 H1 h1) (keep14 : ∀ b o, h1.get? b = some o → h4.get? b = some o) (hns : h4.Ns (h1.objs.size + 1) fun _ => none) (acc4 : h4.get? h1.objs.size = some (W.listOf (([] : List Value)).toArray 0))
    (e : bindC (loopC src (compF r csc tgt elt ifs) items (locC csc ℓ)) allocC Φ H1)
    (K : ∀ C σ3 h3 tk3 m d H', Φ d H' → Inv hb σ3 H' h3 → Rl (fun b => b = C) σ H s.heap σ3 H' h3 → RV hb h3 σ3 H'.next (.ref h1.objs.size) d → h3.Ns C m → hb.get? C = none → ¬ Mut σ3 H'.next C → s.heap.get? C = none → ¬ OwnAll env C → C = h1.objs.size + 1 → RR (.ok .next) { s with heap := h3, toks := tk3 }) :
    codeAny (model prog w) A (.compLoop (.ListComp elt [⟨tgt, iter, ifs, 0⟩] csc pos) 0 (.ref R.I) (.ref h1.objs.size) (compEnvC csc (clOf env csc.names []) (h1.objs.size + 1) env)) RR { s with heap := h4, toks := tk } := by
  have I4 := X.inv.extAll keep14
  have F4 : Frm hb sc env ℓ σ1 H1 h4 := Frm.stb _ _ _ _ _ _ X.inv (.all keep14) I4 F1
  have newB := base_none X.inv
  have newM : ∀ a, h1.objs.size ≤ a → ¬ Mut σ1 H1.next a := fun a q m => absurd (mut_lt X.inv a m) (Nat.not_lt_of_le q)
  have newO : ∀ a, h1.objs.size ≤ a → ¬ OwnAll env a := fun a q => own_old F1 (get_size_none' _ q)
  have old0 : ∀ a, h1.objs.size ≤ a → s.heap.get? a = none := fun a q => by
    cases z : s.heap.get? a with
    | none => rfl
    | some o => exact let ⟨_, z'⟩ := X.rl.there _ _ z id; nomatch (get_size_none' _ q).symm.trans z'
  have lt1 : ∀ b ∈ R.fp, b < h1.objs.size := fun b hb' => let ⟨o, ho⟩ := X.itr.all 0 h1 X.st b hb'; Heap.lt_size ho
  have n0 := Nat.le_refl h1.objs.size
  have n1 := Nat.le_succ h1.objs.size
  refine comp_loop (s := { s with heap := h4, toks := tk }) hh (Hi _) (Ht _) X.itr X.len I4 (F4.comp O hns (newM _ n1) (newB _ n1)) (X.itr.frame _ _ _ X.st fun b _ o q => keep14 b o q) (X.itr.valUp _ _ _ _ _ _ X.val (Rl.keeps (.all keep14) X.inv))
    (fun b hb' => ⟨(X.fpOk b hb').1, fun q => (F1.compOwn O q).elim (fun z => absurd (lt1 b hb') (Nat.not_lt_of_le (Nat.le_trans n1 (Nat.le_of_eq z.symm)))) (X.fpOk b hb').2, Nat.ne_of_lt (lt1 b hb')⟩) (fun x q => O.nocell _ (mem_of_look q) rfl)
    (newB _ n0) acc4 (newM _ n0) (fun q => (F1.compOwn O q).elim (fun z => absurd z (Nat.ne_of_lt (Nat.lt_succ_self _))) (newO _ n0)) e fun σ2 H2 h2 tk2 vs n l e2 I2 rl2 hns ac hmA hmC => ?_
  obtain ⟨m, hm⟩ := hns
  obtain ⟨σ3, J1, J2, J3, J4⟩ := I2.adopt (newB _ n0) hmA ac
  refine K (h1.objs.size + 1) σ3 h2 tk2 m _ _ e2.2 J1 ?_ J3 hm (newB _ n1) (J4 _ (Nat.succ_ne_self _) hmC) (old0 _ n1) (newO _ n1) rfl
  have t0 := (X.rl.weak (Y := fun b => b = h1.objs.size + 1 ∨ b = h1.objs.size ∨ b ∈ R.wr) fun b q => q.elim).trans (.all keep14)
  exact (t0.trans (rl2.trans (J2.weak fun b q => .inr (.inl q)))).drop (fun _ _ e _ => e) fun b o g x => x.elim id fun x => x.elim (fun x => nomatch (x ▸ old0 _ n0).symm.trans g) fun x => nomatch (X.fresh b x).symm.trans g
theorem comp_run (G : GlobOk hb) {r : Lv} {elt iter : Expr} {ifs : List Expr} {pos : Pos} {s : Shared} {Φ : KV} {E : Value → Shared → Prop} {RR : Value → Addr → Result → Shared → Prop} (hh : A.handled = none) (O : CompOk sc csc)
    (He : ∀ ℓ e, Sm prog w hb A (Frm hb sc env ℓ) (eval e env) (IsV hb) (r.ev sc ℓ e))
    (Hi : ∀ env ℓ e, Sm prog w hb A (Frm hb csc env ℓ) (eval e env) (IsV hb) (r.ev csc ℓ e)) (Ht : ∀ env ℓ e, Sm prog w hb A (Frm hb csc env ℓ) (isTrue e env (eval e env)) IsB (r.tr csc ℓ e))
    (I0 : Inv hb σ H s.heap) (F : Frm hb sc env ℓ σ H s.heap)
    (e : bindC (iterC r sc ℓ tgt iter) (fun s => bindC (loopC s.1 (compF r csc tgt elt ifs) s.2 (locC csc ℓ)) allocC) Φ H)
    (K : ∀ acc C σ3 h3 tk3 m d H', Φ d H' → Inv hb σ3 H' h3 → Rl (fun b => b = C) σ H s.heap σ3 H' h3 → RV hb h3 σ3 H'.next acc d → h3.Ns C m → hb.get? C = none → ¬ Mut σ3 H'.next C → s.heap.get? C = none → ¬ OwnAll env C → RR acc C (.ok .next) { s with heap := h3, toks := tk3 }) :
    okE iter = true ∧ wpAny (model prog w) A (eval iter env) (fun x s₁ => wpAny (model prog w) A (pyIter x) (fun it s₂ => wpAny (model prog w) A (newList []) (fun acc s₃ => wpAny (model prog w) A (newFunctionEnv csc env.globals (clOf env csc.names []) [] env.qual none .none (some env)) (fun cenv s₄ =>
      codeAny (model prog w) A (.compStart (.ListComp elt [⟨tgt, iter, ifs, 0⟩] csc pos) 0 it acc { cenv with scope := relabel csc env }) (RR acc cenv.locals) s₄) E s₃) E s₂) E s₁) E s := by
  refine run_iter (s := s) (tgt := tgt) (Q := fun it s₂ => wpAny (model prog w) A (newList []) (fun acc s₃ => wpAny (model prog w) A (newFunctionEnv csc env.globals (clOf env csc.names []) [] env.qual none .none (some env)) (fun cenv s₄ =>
      codeAny (model prog w) A (.compStart (.ListComp elt [⟨tgt, iter, ifs, 0⟩] csc pos) 0 it acc { cenv with scope := relabel csc env }) (RR acc cenv.locals) s₄) E s₃) E s₂) (E := E) G hh (He ℓ) I0 F e fun src items V R σ1 H1 h1 tk1 e1 X => ?_
  refine wpAny_newObj_type ?_
  refine wpAny_newFunctionEnv O.nocell (fun y hy => nomatch hy) (fun h4 hns4 hsb4 => ?_) O.kind
  have hsz : (h1.push { cls := .type "list", data := .seq (([] : List Value)).toArray }).objs.size = h1.objs.size + 1 := Heap.size_push ..
  dsimp only at hns4 hsb4 ⊢
  rw [hsz] at hns4 hsb4
  have keep14 : ∀ b o, h1.get? b = some o → h4.get? b = some o := fun b o q => hsb4.extBut b o (Nat.ne_of_lt (Nat.lt_succ_of_lt (Heap.lt_size q))) (Heap.get?_push_of_some _ (Heap.get?_push_of_some _ q))
  have acc4 : h4.get? h1.objs.size = some (W.listOf (([] : List Value)).toArray 0) := hsb4.extBut _ _ (Nat.ne_of_lt (Nat.lt_succ_self _)) (Heap.get?_push_of_some _ (Heap.get?_push_size _ rfl))
  have l0 := comp_body (pos := pos) (iter := iter) (tk := tk1 + ([] : List (Str × Value)).length) (RR := RR (.ref h1.objs.size) (h1.objs.size + 1)) hh O Hi Ht (Frm.stb _ _ _ _ _ _ I0 X.rl X.inv F) X keep14 hns4 acc4 e1
    fun C σ3 h3 tk3 m d H' φ a1 a2 a3 a4 a5 a6 a7 a8 q => q ▸ K _ C σ3 h3 tk3 m d H' φ a1 a2 a3 a4 a5 a6 a7 a8
  have := codeAny_compStart_list l0 (X.itr.self _ _ _ (X.itr.frame _ _ _ X.st fun b _ o q => keep14 b o q) l0)
  rw [hsz]
  exact this
end
end Mine
namespace Mine
open PySem PySem.W PySem.Calls PyProof.Rows PySem.Spec PySem.SeqAt
section
variable {prog : Program} {w : World} {A : Around} {hb : Heap} {tgt : Expr} {sc csc : Scope} {env : Env} {ℓ : Loc}
theorem priv_one {σ : Sg} {H : PH} {h h' : Heap} {C : Addr} {m : Str → Option Value} (I : Inv hb σ H h) (hn : h.Ns C m) (h0 : hb.get? C = none) (hm : ¬ Mut σ H.next C) (hs : Heap.SameBut C h h') :
    Inv hb σ H h' ∧ Rl (fun b => b = C) σ H h σ H h' ∧ Keeps2 h σ H.next h' σ H.next := by
  have nv : ∀ b o, h.get? b = some o → b = C → NotVal o := fun b o e q => ns_data hn (q ▸ e)
  have x : Ext (fun b => b = C) h h' := ⟨fun b o e q => (hs.2 b q).trans e⟩
  exact ⟨I.ext x (fun b q => q ▸ hm) (fun b q => q ▸ h0) nv, .of_ext x, (Rl.of_ext x).keeps2 I nv⟩
theorem gone {C : Addr} {h : Heap} {p : Prop} (fr : h.get? C = none) {b : Addr} {o : Obj} (g : h.get? b = some o) (q : b = C) : p := nomatch (q ▸ fr).symm.trans g
noncomputable abbrev compC (r : Lv) (sc csc : Scope) (ℓ : Loc) (tgt iter elt : Expr) (ifs : List Expr) : CM PV := bindC (iterC r sc ℓ tgt iter) fun s => bindC (loopC s.1 (compF r csc tgt elt ifs) s.2 (locC csc ℓ)) allocC
theorem sm_ListComp (G : GlobOk hb) {r : Lv} {elt iter : Expr} {ifs : List Expr} {as : Int} {pos : Pos} (hh : A.handled = none)
    (He : ∀ ℓ e, Sm prog w hb A (Frm hb sc env ℓ) (eval e env) (IsV hb) (r.ev sc ℓ e))
    (Hi : ∀ env ℓ e, Sm prog w hb A (Frm hb csc env ℓ) (eval e env) (IsV hb) (r.ev csc ℓ e)) (Ht : ∀ env ℓ e, Sm prog w hb A (Frm hb csc env ℓ) (isTrue e env (eval e env)) IsB (r.tr csc ℓ e)) :
    Sm prog w hb A (Frm hb sc env ℓ) (eval (.ListComp elt [⟨tgt, iter, ifs, as⟩] csc pos) env) (IsV hb) (if as = 0 ∧ compOk sc csc = true then compC r sc csc ℓ tgt iter elt ifs else failC) :=
  .iteP fun ⟨ha, hc⟩ => by
    subst ha
    have O := compOk_is hc
    rw [arm_eval_ListComp]
    intro σ H s Φ I0 F e Q E k
    obtain ⟨h1, h3⟩ := comp_run (RR := fun acc C => compPost (model prog w) A E none Q acc C) (E := E) (pos := pos) G hh O He Hi Ht I0 F e fun acc C σ3 h3 tk3 m d H' φ I3 rl3 rv3 hns h0 hm fr hno => by
      refine ⟨m, hns, fun h' hs => ?_⟩
      obtain ⟨J1, J2, J3⟩ := priv_one I3 hns h0 hm hs
      exact k acc σ3 h' tk3 d H' φ J1 ((rl3.trans J2).drop (fun _ _ e _ => e) fun b o g q => gone fr g q) (rv3.mono J3)
    exact wpAny_comprehension_free (use := none) rfl (fun x => folded_eq h1) (F.clos O) O.kind (fun x hx hl => mem_look_distinct O.nd (hl ▸ hx)) h3
theorem su_ListComp (G : GlobOk hb) {r : Lv} {elt iter : Expr} {ifs : List Expr} {as : Int} {pos q : Pos} {x : Str} (hh : A.handled = none)
    (He : ∀ ℓ e, Sm prog w hb A (Frm hb sc env ℓ) (eval e env) (IsV hb) (r.ev sc ℓ e))
    (Hi : ∀ env ℓ e, Sm prog w hb A (Frm hb csc env ℓ) (eval e env) (IsV hb) (r.ev csc ℓ e)) (Ht : ∀ env ℓ e, Sm prog w hb A (Frm hb csc env ℓ) (isTrue e env (eval e env)) IsB (r.tr csc ℓ e)) :
    SmU prog w hb A sc env (fun _ _ _ => True) (evalThenUse (.ListComp elt [⟨tgt, iter, ifs, as⟩] csc pos) env (fun v => assignAll v ((assignEach [.Name x q] env).map (·.2)))) ℓ (bindC (if as = 0 ∧ compOk sc csc = true then compC r sc csc ℓ tgt iter elt ifs else failC) fun d => optC (bindN sc ℓ x d)) := by
  by_cases hc : as = 0 ∧ compOk sc csc = true
  · rw [if_pos hc]
    obtain ⟨ha, hc⟩ := hc
    subst ha
    have O := compOk_is hc
    rw [arm_evalThenUse_ListComp]
    intro σ H s Φ I0 F _ e Q E k
    obtain ⟨h1, h3⟩ := comp_run (RR := fun acc C => compPost (model prog w) A E (some (fun v => assignAll v ((assignEach [.Name x q] env).map (·.2)))) (fun _ s' => Q () s') acc C) (E := E) (pos := pos) G hh O He Hi Ht I0 F e fun acc C σ3 h3 tk3 m d H1 φ I3 rl3 rv3 hns h0 hm fr hno => by
      have rl3' : Rl NoX σ H s.heap σ3 H1 h3 := rl3.drop (fun _ _ e _ => e) fun b o g q => gone fr g q
      have F3 := Frm.stb _ _ _ _ _ _ I0 rl3' I3 F
      show wpAny (model prog w) A (assign (.Name x q) env acc) _ E _
      refine su_Name σ3 H1 { s with heap := h3, toks := tk3 } _ I3 F3 rv3 φ _ E fun σ4 h4 tk4 ℓ4 H4 φ4 I4 rl4 F4 => ?_
      have hnO : ¬ Own sc env C := fun z => hno z.all
      obtain ⟨o, es, ep, ho, rr⟩ := id hns
      have hns4 : h4.Ns C m := ⟨o, es, ep, rl4.keep _ _ ho hnO hm, rr⟩
      refine ⟨m, hns4, fun h' hs => ?_⟩
      obtain ⟨J1, J2, J3⟩ := priv_one I4 hns4 h0 (rl4.mut ho hnO hm) hs
      have rlA : Rl (fun b => b = C ∨ Own sc env b) σ H s.heap σ4 H4 h' := ((rl3'.weak (Y := fun b => b = C ∨ Own sc env b) fun b q => q.elim).trans (rl4.weak fun b q => .inr q)).trans (J2.weak fun b q => .inl q)
      exact k σ4 h' tk4 ℓ4 H4 φ4 J1 (rlA.drop (fun _ _ e _ => e) fun b o g q => q.elim (fun q => gone fr g q) id) (F4.but J3 (all1 hno) fun b o e z => (hs.2 b fun y => z (y ▸ .head _)).trans e)
    exact wpAny_bind (wpAny_mono (wpAny_comprehension_free (use := some _) rfl (fun x => folded_eq h1) (F.clos O) O.kind (fun x hx hl => mem_look_distinct O.nd (hl ▸ hx)) h3) (fun _ _ z => wpAny_pure z) fun _ _ z => z)
  · rw [if_neg hc]; exact fun σ H s Φ I F p e => e.elim
theorem upd_comm {x y : Str} {d e : PV} (h : x ≠ y) : (ℓ.upd x d).upd y e = (ℓ.upd y e).upd x d := by
  funext z
  unfold Loc.upd
  by_cases hy : z = y
  · rw [if_pos hy, if_neg fun q => h (q.symm.trans hy), if_pos hy]
  · rw [if_neg hy]
    by_cases hx : z = x
    · rw [if_pos hx, if_pos hx]
    · rw [if_neg hx, if_neg hx, if_neg hy]
theorem bindS_upd {x : Str} {d : PV} {xs : List Str} : ∀ {ℓ : Loc} {ds : List PV}, x ∉ xs → bindS xs (ℓ.upd x d) ds = (bindS xs ℓ ds).map fun ℓ => ℓ.upd x d := by
  induction xs with
  | nil => intro ℓ ds _; cases ds <;> rfl
  | cons y ys ih =>
    intro ℓ ds h
    cases ds with
    | nil => rfl
    | cons e es =>
      show bindS ys ((ℓ.upd x d).upd y e) es = (bindS ys (ℓ.upd y e) es).map _
      rw [upd_comm fun q : x = y => h (q ▸ .head _)]
      exact ih fun q => h (.tail _ q)
theorem bindS_snoc {x : Str} {d : PV} {xs : List Str} : ∀ {ℓ : Loc} {ds : List PV}, xs.length = ds.length → bindS (xs ++ [x]) ℓ (ds ++ [d]) = (bindS xs ℓ ds).map fun ℓ => ℓ.upd x d := by
  induction xs with
  | nil =>
    intro ℓ ds h
    cases ds with
    | nil => rfl
    | cons _ _ => exact nomatch h
  | cons y ys ih =>
    intro ℓ ds h
    cases ds with
    | nil => exact nomatch h
    | cons e es => exact ih (ℓ := ℓ.upd y e) (Nat.succ.inj h)
theorem bindS_rev {xs : List Str} : ∀ {ℓ : Loc} {ds : List PV}, distinct xs = true → xs.length = ds.length → bindS xs.reverse ℓ ds.reverse = bindS xs ℓ ds := by
  induction xs with
  | nil =>
    intro ℓ ds _ h
    cases ds with
    | nil => rfl
    | cons _ _ => exact nomatch h
  | cons x xs ih =>
    intro ℓ ds hd h
    cases ds with
    | nil => exact nomatch h
    | cons d ds =>
      obtain ⟨h1, h2⟩ := distinct_not hd
      have h : xs.length = ds.length := Nat.succ.inj h
      rw [List.reverse_cons, List.reverse_cons, bindS_snoc (by rw [List.length_reverse, List.length_reverse, h]), ih h2 h]
      exact (bindS_upd h1).symm
theorem su_bindAll {xs : List Str} : ∀ {vs : List Value} {ds : List PV} {ℓ : Loc}, xs.all (okNB sc) = true → SmU prog w hb A sc env (fun σ H h => IsVs hb σ H h vs ds) (assignInOrder (xs.map fun n => bindName env n) vs) ℓ (optC (bindS xs ℓ ds)) := by
  induction xs with
  | nil =>
    intro vs ds ℓ _
    cases ds with
    | nil => exact fun σ H s Φ I F p e Q E k => assignInOrder_nil (k σ s.heap s.toks ℓ H e I .refl F)
    | cons _ _ => exact SmU.fail
  | cons x xs ih =>
    intro vs ds ℓ ok
    rw [List.all_cons, Bool.and_eq_true] at ok
    cases ds with
    | nil => exact SmU.fail
    | cons d ds =>
      intro σ H s Φ I F p e Q E k
      obtain ⟨v, vs', rfl, a, r⟩ := RVs.inv p
      refine assignInOrder_cons (su_store ok.1 σ H s (fun ℓ' H' => optC (bindS xs ℓ' ds) Φ H') I F a e _ E fun σ1 h1 tk1 ℓ1 H1 φ I1 R1 F1 => ?_)
      exact ih ok.2 σ1 H1 { s with heap := h1, toks := tk1 } Φ I1 F1 (F.upsO I R1 r) φ Q E fun σ2 h2 tk2 ℓ2 H2 φ2 I2 R2 F2 => k σ2 h2 tk2 ℓ2 H2 φ2 I2 (R1.trans R2) F2
theorem RVs.rev {hb h σ nx vs ds} (p : RVs hb h σ nx vs ds) : RVs hb h σ nx vs.reverse ds.reverse :=
  p.ind (M := fun vs ds => RVs hb h σ nx vs.reverse ds.reverse) .nil fun v d vs ds a _ r => by
    rw [List.reverse_cons, List.reverse_cons]
    exact r.append (.cons a .nil)
end
end Mine
namespace Mine
open PySem PySem.W PySem.Calls PyProof.Rows PySem.Spec PySem.SeqAt
section
variable {prog : Program} {w : World} {A : Around} {hb : Heap} {K : Frag} {sc : Scope} {env : Env} {ℓ : Loc}
noncomputable def storeN (env : Env) (line : Nat) : Expr → Option Str := fun
  | .Name id pos => if env.kindOf id == some .local && pos.line == line then some id else none
  | _ => none
theorem swapped_is {ts vs : List Expr} {k k' : Nat} {p p' : Pos} (h : (vs.all (constantsAlone 8)) = false) : swappedStores [.Tuple ts k p] (.Tuple vs k' p') env = pure none ∨
    ∃ names, swappedStores [.Tuple ts k p] (.Tuple vs k' p') env = pure (some names) ∧ names.length = ts.length ∧ ∃ line : Nat, names = ts.filterMap (storeN env line) := by
  unfold swappedStores
  dsimp only
  split
  · exact .inl rfl
  · split
    · exact .inl rfl
    · split
      · exact .inl rfl
      · rename_i hn
        split
        · exact .inl rfl
        · rw [h]
          refine .inr ⟨_, rfl, ?_, _, rfl⟩
          rw [Bool.or_eq_true, not_or] at hn
          have hz := hn.1
          rw [bne_iff_ne, ne_eq, Decidable.not_not] at hz
          exact hz
theorem fm_names {line : Nat} {ts : List Expr} : (ts.filterMap (storeN env line)).length = ts.length → ts.filterMap (storeN env line) = namesOf ts := by
  induction ts with
  | nil => exact fun _ => rfl
  | cons t ts ih =>
    intro h
    have le := List.length_filterMap_le (storeN env line) ts
    have no : storeN env line t = none → False := fun q => by
      rw [List.filterMap_cons_none q, List.length_cons] at h
      omega
    cases t with
    | Name x q =>
      have e : storeN env line (.Name x q) = if (env.kindOf x == some .local && q.line == line) = true then some x else none := rfl
      by_cases hc : (env.kindOf x == some .local && q.line == line) = true
      · rw [if_pos hc] at e
        rw [List.filterMap_cons_some e] at h ⊢
        exact congrArg (x :: ·) (ih (Nat.succ.inj h))
      · rw [if_neg hc] at e; exact (no e).elim
    | _ => exact (no rfl).elim
theorem plainT_inv {t : Expr} (h : isPlainT t = true) : (∃ x q, t = .Name x q) ∨ ∃ o a q, t = .Attribute o a q := by
  cases t with
  | Name x q => exact .inl ⟨x, q, rfl⟩
  | Attribute o a q => exact .inr ⟨o, a, q, rfl⟩
  | _ => exact absurd h Bool.false_ne_true
theorem swaps_no {e t : Expr} {line : Nat} (hc : isCompE e = false) : swapsWith e (some t) line env = pure false := by
  cases e <;> first | rfl | exact absurd hc Bool.noConfusion
theorem swaps_yes {e o : Expr} {x a : Str} {q : Pos} {line : Nat} (hc : isCompE e = true) : (∃ b : Bool, swapsWith e (some (.Name x q)) line env = pure b) ∧ swapsWith e (some (.Attribute o a q)) line env = pure false := by
  cases e <;> first | exact ⟨⟨_, rfl⟩, rfl⟩ | exact absurd hc Bool.false_ne_true
theorem swaps_is {e t : Expr} {line : Nat} (h : isCompE e = true → isPlainT t = true) : swapsWithSole [t] e line env = pure false ∨ (swapsWithSole [t] e line env = pure true ∧ isCompE e = true ∧ ∃ x q, t = .Name x q) := by
  show swapsWith e (some t) line env = _ ∨ _
  cases hc : isCompE e with
  | false => exact .inl (swaps_no hc)
  | true =>
    rcases plainT_inv (h hc) with ⟨x, q, rfl⟩ | ⟨o, a, q, rfl⟩
    · obtain ⟨b, hb⟩ := (swaps_yes (env := env) (o := e) (a := x) (x := x) (q := q) (line := line) hc).1
      cases b with
      | false => exact .inl hb
      | true => exact .inr ⟨hb, rfl, x, q, rfl⟩
    · exact .inl (swaps_yes (x := a) hc).2
end
end Mine
namespace Mine
open PySem PySem.W PySem.Calls PyProof.Rows PySem.Spec PySem.SeqAt
section
variable {prog : Program} {w : World} {A : Around} {hb : Heap} {K : Frag} {sc : Scope} {env : Env} {ℓ : Loc}
noncomputable def isTup2 : Expr → Expr → Bool
  | .Tuple .., .Tuple .. => true
  | _, _ => false
theorem swapOk_inv {t e : Expr} (h : swapOk t e = true) : (∃ ts k p vs k' p', t = .Tuple ts k p ∧ e = .Tuple vs k' p' ∧ vs.all (constantsAlone 8) = false ∧ distinct (namesOf ts) = true) ∨ (isTup2 t e = false ∧ (isCompE e = true → isPlainT t = true)) := by
  cases hb : isTup2 t e with
  | true =>
    cases t with
    | Tuple ts k p =>
      cases e with
      | Tuple vs k' p' =>
        obtain ⟨h1, h2⟩ := Bool.and_eq_true_iff.mp (show (!(vs.all (constantsAlone 8)) && distinct (namesOf ts)) = true from h)
        exact .inl ⟨ts, k, p, vs, k', p', rfl, rfl, (Bool.not_eq_true' _).mp h1, h2⟩
      | _ => exact absurd hb Bool.false_ne_true
    | _ => exact absurd hb Bool.false_ne_true
  | false =>
    refine .inr ⟨rfl, fun hc => ?_⟩
    have h' : (!isCompE e || isPlainT t) = true := by
      cases t with
      | Tuple ts k p =>
        cases e with
        | Tuple vs k' p' => exact absurd hc Bool.false_ne_true
        | _ => exact h
      | _ => exact h
    rw [hc] at h'
    exact h'
theorem swapped_none {t e : Expr} (h : isTup2 t e = false) (hl : ∀ ts p, t ≠ .List ts p) : swappedStores [t] e env = pure none := by
  cases t with
  | Tuple ts k p => cases e <;> first | rfl | exact absurd h Bool.noConfusion
  | List ts p => exact absurd rfl (hl _ _)
  | _ => rfl
theorem asg_each {ev : Expr → CM PV} {t : Expr} {d : PV} {Φ : Loc → PH → Prop} {H : PH} (e : asgC sc ev ℓ d t Φ H) : (assignEach [t] env).map (·.2) = [assign t env] ∧ ∀ ts p, t ≠ .List ts p := by
  cases t with
  | Name => exact ⟨rfl, fun _ _ q => nomatch q⟩
  | Attribute => exact ⟨rfl, fun _ _ q => nomatch q⟩
  | Subscript => exact ⟨rfl, fun _ _ q => nomatch q⟩
  | Tuple => exact ⟨rfl, fun _ _ q => nomatch q⟩
  | _ => exact e.elim
theorem ss_assign (hK : K.In hb) (hT : ClssOk K) {r : Lv} {t e : Expr} {p : Pos} (hh : A.handled = none) (He : ∀ ℓ e, Sm prog w hb A (Frm hb sc env ℓ) (eval e env) (IsV hb) (r.ev sc ℓ e))
    (Hu : ∀ ℓ e x q, isCompE e = true → SmU prog w hb A sc env (fun _ _ _ => True) (evalThenUse e env (fun v => assignAll v ((assignEach [.Name x q] env).map (·.2)))) ℓ (bindC (r.ev sc ℓ e) fun d => optC (bindN sc ℓ x d))) :
    SmS prog w hb A sc env (exec (.Assign [t] e p) env) ℓ (fun _ => if swapOk t e then bindC (r.ev sc ℓ e) fun v => asgC sc (r.ev sc ℓ) ℓ v t else failC) := by
  by_cases hs : swapOk t e = true
  · rw [if_pos hs, arm_exec_Assign]
    refine SmS.at fun σ H s kr Φ I F e0 Q E k => ?_
    have hsw := swapOk_inv hs
    have hp : isCompE e = true → isPlainT t = true := by
      rcases hsw with ⟨ts, k1, p1, vs, k2, p2, rfl, rfl, _⟩ | ⟨_, h⟩
      · exact fun q => absurd q Bool.false_ne_true
      · exact h
    rcases swaps_is (env := env) (line := p.line) hp with hw | ⟨hw, hc, x, q, rfl⟩
    · rw [hw]
      refine wpAny_bind (wpAny_pure ?_)
      rw [if_neg Bool.false_ne_true]
      refine wpAny_bind (He ℓ e σ H s _ I F e0 _ E fun v σ1 h1 tk1 d H1 e1 I1 R1 rv => ?_)
      have F1 := Frm.stb _ _ _ _ _ _ I R1 I1 F
      have plain : swappedStores [t] e env = pure none → wpAny (model prog w) A (do let z ← swappedStores [t] e env; assignStores env v z ((assignEach [t] env).map (·.2))) Q E { s with heap := h1, toks := tk1 } := fun hz => by
        rw [hz, (asg_each e1).1]
        exact wpAny_bind (wpAny_pure (wpAny_bind (su_asg hK hT hh (He ℓ) σ1 H1 { s with heap := h1, toks := tk1 } Φ I1 F1 rv e1 _ E fun σ2 h2 tk2 ℓ2 H2 φ I2 R2 F2 => wpAny_pure (k.1 σ2 h2 tk2 ℓ2 H2 φ I2 (R1.own.trans R2) F2))))
      rcases hsw with ⟨ts, k1, p1, vs, k2, p2, rfl, rfl, hv, hd⟩ | ⟨hn, _⟩
      · rcases swapped_is (env := env) (ts := ts) (k := k1) (p := p1) (k' := k2) (p' := p2) hv with hz | ⟨names, hz, hlen, line, hnm⟩
        · exact plain hz
        · rw [hz]
          obtain rfl : names = namesOf ts := hnm.trans (fm_names (hnm ▸ hlen))
          refine wpAny_bind (wpAny_pure (show wpAny _ _ (do rule "assign.swapped-stores"; let items ← unpackItems v (namesOf ts).length none; assignInOrder ((namesOf ts).reverse.map fun n => bindName env n) items.reverse; pure Flow.next) _ _ _ from ?_))
          refine wpAny_bind (wpAny_rule (wpAny_bind (unpack_items hh I1 rv e1 (fun l e => (bindTup_inv e).2.1) fun ws h' l keep rws e2 => ?_)))
          obtain ⟨⟨_, b2⟩, b3, b4⟩ := bindTup_inv e2
          rw [← bindS_rev hd b3.symm] at b4
          have R2 : Rl NoX σ1 H1 h1 σ1 H1 h' := .all keep
          have I2 := I1.extAll keep
          exact wpAny_bind (su_bindAll (by rw [List.all_reverse]; exact b2) σ1 H1 { s with heap := h', toks := tk1 } Φ I2 (Frm.stb _ _ _ _ _ _ I1 R2 I2 F1) ((rws.up R2 I1).rev) b4 _ E fun σ3 h3 tk3 ℓ3 H3 φ I3 R3 F3 => wpAny_pure (k.1 σ3 h3 tk3 ℓ3 H3 φ I3 ((R1.trans R2).own.trans R3) F3))
      · exact plain (swapped_none hn (asg_each (env := env) e1).2)
    · rw [hw]
      refine wpAny_bind (wpAny_pure ?_)
      rw [if_pos rfl]
      exact wpAny_bind (Hu ℓ e x q hc σ H s Φ I F trivial e0 _ E fun σ1 h1 tk1 ℓ1 H1 φ I1 R1 F1 => wpAny_pure (k.1 σ1 h1 tk1 ℓ1 H1 φ I1 R1 F1))
  · rw [if_neg hs]; exact SmS.fail
end
end Mine
namespace Mine
open PySem PySem.W PySem.Calls PyProof.Rows PySem.Spec PySem.SeqAt
structure TabOk (K : Frag) (hb : Heap) : Prop where
  kin : K.In hb
  glob : GlobOk hb
  lim : hb.NoLimit
  cls : ClssOk K
  fns : ∀ a fi, fns a = some fi → ∃ fd, FnOk K a fi fd
theorem TabOk.known {K hb} (O : TabOk K hb) : KnownOk K := fun a h => by
  cases hf : Mine.fns a with
  | some fi => exact let ⟨_, q⟩ := O.fns a fi hf; q.keep
  | none =>
    cases hc : Mine.cls a with
    | some ci => exact (O.cls a ci hc).keep
    | none => rw [hf, hc] at h; exact absurd h Bool.false_ne_true
noncomputable def Room (A : Around) (n : Nat) : Prop := A.handled = none ∧ A.depth + 3 * n + 3 ≤ recursionLimit ∧ A.units + 20 * n + 120 < cLine
theorem weight_make {C : Addr} {vs : List Value} : (Code.builtin "type.__call__" ⟨.ref C :: vs, []⟩).weight = 1 := by
  unfold Code.weight
  rw [show (Code.builtin "type.__call__" ⟨.ref C :: vs, []⟩).isGuard = false from (by decide : guardIds.contains "type.__call__" = false)]
  rfl
theorem Room.deeper {A : Around} {n : Nat} {env : Env} (h : Room A (n + 1)) : Room (A.deeper env) n :=
  ⟨h.1, by have := h.2.1; show A.depth + 1 + 3 * n + 3 ≤ _; omega, by have := h.2.2; show A.units + 3 + 20 * n + 120 < _; omega⟩
theorem Room.make {A : Around} {n : Nat} {env : Env} {C : Addr} {vs : List Value} (h : Room A (n + 1)) : Room ((MakeA A C vs).deeper env) n :=
  ⟨h.1, by have := h.2.1; show A.depth + (Code.builtin "type.__call__" ⟨.ref C :: vs, []⟩).weight + 1 + 3 * n + 3 ≤ _; rw [weight_make]; omega, by have := h.2.2; show A.units + 1 + 3 + 20 * n + 120 < _; omega⟩
theorem Room.less {A : Around} {n k : Nat} (h : Room A (n + 1)) (hk : k ≤ n) : Room A k := ⟨h.1, by have := h.2.1; omega, by have := h.2.2; omega⟩
structure Sd (prog : Program) (w : World) (hb : Heap) (n : Nat) : Prop where
  ev : ∀ A, Room A n → ∀ sc env ℓ e, Sm prog w hb A (Frm hb sc env ℓ) (eval e env) (IsV hb) ((lv n).ev sc ℓ e)
  tr : ∀ A, Room A n → ∀ sc env ℓ e, Sm prog w hb A (Frm hb sc env ℓ) (isTrue e env (eval e env)) IsB ((lv n).tr sc ℓ e)
  us : ∀ A, Room A n → ∀ sc env ℓ e x q, isCompE e = true → SmU prog w hb A sc env (fun _ _ _ => True) (evalThenUse e env (fun v => assignAll v ((assignEach [.Name x q] env).map (·.2)))) ℓ (bindC ((lv n).ev sc ℓ e) fun d => optC (bindN sc ℓ x d))
  ex : ∀ A, Room A n → ∀ sc env ℓ st, SmS prog w hb A sc env (exec st env) ℓ ((lv n).ex sc ℓ st)
  cl : ∀ A, Room A n → Calls' prog w hb A (lv n)
section
variable {prog : Program} {w : World} {hb : Heap} {K : Frag} {n : Nat} {A : Around} {sc : Scope} {env : Env} {ℓ : Loc}
theorem sd_cl (O : TabOk K hb) (S : ∀ m, n = m + 1 → Sd prog w hb m) (R : Room A n) : Calls' prog w hb A (lv n) := by
  intro f vs ds
  cases f with
  | builtin b => exact sm_builtin O.kin O.cls R.1
  | type t => exact sm_type R.1
  | ref a =>
    intro σ H s Φ I p ⟨e⟩ Q E k
    cases n with
    | zero => exact e.elim
    | succ n =>
      have body : ∀ {A' : Around}, Room A' n → ∀ (fi : FnI) (env : Env) ℓ, SmS prog w hb A' fi.scope env (execs fi.body env) ℓ (exL ((lv n).ex fi.scope) fi.body ℓ) := fun R' fi env ℓ => ss_execs fun st _ ℓ => (S n rfl).ex _ R' fi.scope env ℓ st
      have hroom : A.depth + 1 < recursionLimit := by have := R.2.1; omega
      have e : clS (lv n) a ds Φ H := e
      unfold clS at e
      cases hf : fns a with
      | some fi =>
        rw [hf] at e
        obtain ⟨fd, q⟩ := O.fns a fi hf
        exact sm_callFn O.kin O.lim q (Nat.lt_of_succ_lt hroom) (fun L ℓ => body R.deeper fi _ ℓ) σ H s Φ I p e Q E k
      | none =>
        rw [hf] at e
        cases hc : cls a with
        | none => rw [hc] at e; exact e.elim
        | some ci =>
          rw [hc] at e
          cases hi : fns ci.init with
          | none =>
            have e : (match fns ci.init with | some fi => makeC (lv n) a fi ds | none => failC) Φ H := e
            rw [hi] at e; exact e.elim
          | some fi =>
            have e : (match fns ci.init with | some fi => makeC (lv n) a fi ds | none => failC) Φ H := e
            rw [hi] at e
            obtain ⟨fd, q⟩ := O.fns ci.init fi hi
            exact sm_make O.kin O.lim (O.cls a ci hc) q (by show A.depth + (Code.builtin "type.__call__" ⟨.ref a :: vs, []⟩).weight < _; rw [weight_make]; exact hroom) (fun L ℓ => body R.make fi _ ℓ) σ H s Φ I p e Q E k
  | _ => exact Sm.fail
theorem sd_sub (S : Sd prog w hb n) (R : Room A n) (o i : Expr) (p : Pos) : Sm prog w hb A (Frm hb sc env ℓ) (eval (.Subscript o i p) env) (IsV hb) (evS (lv n) sc ℓ (.Subscript o i p)) := by
  have He := fun e => S.ev A R sc env ℓ e
  have plain := sm_Subscript (i := i) (p := p) (ev := (lv n).ev sc ℓ) Frm.stb (He o) (He i)
  cases i with
  | Slice lo up stp p2 =>
    cases lo with
    | none =>
      cases up with
      | some u =>
        cases stp with
        | none => exact sm_SubSlice (ev := (lv n).ev sc ℓ) Frm.stb (He o) (He u)
        | some _ => exact plain
      | none => exact plain
    | some _ => exact plain
  | _ => exact plain
theorem sd_call (O : TabOk K hb) (S : Sd prog w hb n) (R : Room A n) (f : Expr) (args : List Expr) (kws : List Keyword) (q : Pos) : Sm prog w hb A (Frm hb sc env ℓ) (eval (.Call f args kws q) env) (IsV hb) (evS (lv n) sc ℓ (.Call f args kws q)) := by
  have He := fun e => S.ev A R sc env ℓ e
  cases f with
  | Attribute o name p =>
    cases kws with
    | cons _ _ => exact Sm.fail
    | nil => exact sm_CallMethod (r := lv n) (ev := (lv n).ev sc ℓ) O.kin O.cls Frm.stb (He o) (fun e _ => He e) (S.cl A R)
  | Name f p =>
    cases kws with
    | cons _ _ => exact Sm.fail
    | nil => exact sm_CallName (ev := (lv n).ev sc ℓ) O.kin O.known O.glob (fun e _ => He e) (S.cl A R)
  | _ => exact Sm.fail
theorem sd_ev (O : TabOk K hb) (S : Sd prog w hb n) (R1 : Room A (n + 1)) (e : Expr) : Sm prog w hb A (Frm hb sc env ℓ) (eval e env) (IsV hb) (evS (lv n) sc ℓ e) := by
  have R := R1.less (Nat.le_refl n)
  have hu : A.units + 100 < cLine := by have := R.2.2; omega
  have He := fun e => S.ev A R sc env ℓ e
  cases e with
  | Constant c k p => rw [arm_eval_Constant]; exact sm_const
  | Name x p => exact sm_name O.glob
  | BoolOp op vs p => rw [arm_eval_BoolOp]; exact sm_boolOp Frm.stb fun e _ => He e
  | BinOp a op b p => exact sm_BinOp (ev := (lv n).ev sc ℓ) Frm.stb (He a) (He b)
  | UnaryOp op a p => exact sm_UnaryOp (ev := (lv n).ev sc ℓ) Frm.stb (He a)
  | IfExp t b o p => exact sm_IfExp (ev := (lv n).ev sc ℓ) (tr := (lv n).tr sc ℓ) Frm.stb (S.tr A R sc env ℓ t) (He b) (He o)
  | List es p => exact sm_list Frm.stb fun e _ => He e
  | Tuple es k p => exact sm_tuple Frm.stb fun e _ => He e
  | Compare a ops cs p => exact sm_Compare (ev := (lv n).ev sc ℓ) hu Frm.stb (He a) fun e _ => He e
  | Attribute o a p => exact sm_Attribute (ev := (lv n).ev sc ℓ) O.kin O.cls Frm.stb (He o)
  | Subscript o i p => exact sd_sub S R o i p
  | Call f args kws q => exact sd_call O S R f args kws q
  | ListComp elt gens csc p =>
    cases gens with
    | nil => exact Sm.fail
    | cons g gens =>
      cases gens with
      | cons _ _ => exact Sm.fail
      | nil => obtain ⟨target, iter, ifs, as⟩ := g; exact sm_ListComp O.glob R.1 (fun ℓ e => S.ev A R sc env ℓ e) (fun env ℓ e => S.ev A R csc env ℓ e) (fun env ℓ e => S.tr A R csc env ℓ e)
  | _ => exact Sm.fail
theorem sd_tr (O : TabOk K hb) (S : Sd prog w hb n) (R1 : Room A (n + 1)) (e : Expr) : Sm prog w hb A (Frm hb sc env ℓ) (isTrue e env (eval e env)) IsB (trS (lv n) sc ℓ e) := by
  have R := R1.less (Nat.le_refl n)
  have hu : A.units + 100 < cLine := by have := R.2.2; omega
  have He := fun e => S.ev A R sc env ℓ e
  have Htr := fun e => S.tr A R sc env ℓ e
  have other : isTrue e env (eval e env) = (do let v ← eval e env; standAt e.pos; holding [v] (truthy v)) → Sm prog w hb A (Frm hb sc env ℓ) (isTrue e env (eval e env)) IsB (bindC ((lv n).ev sc ℓ e) truthC) := fun h => sm_trElse (ev := (lv n).ev sc ℓ) Frm.stb (He e) h
  cases e with
  | BoolOp op vs p => rw [arm_isTrue_BoolOp]; exact sm_allTrue Frm.stb fun e _ => Htr e
  | IfExp t b o p => rw [arm_isTrue_IfExp]; exact sm_if Frm.stb (Htr t) (Htr b) (Htr o)
  | Compare a ops cs p => exact sm_trCompare (ev := (lv n).ev sc ℓ) hu Frm.stb (He a) fun e _ => He e
  | UnaryOp op x p =>
    cases op with
    | Not =>
      rw [arm_isTrue_UnaryOp]
      exact (Htr x).bind (Sm.bool fun c => by cases c <;> exact Sm.pure fun _ _ _ _ => rfl) Frm.stb
    | _ => exact other rfl
  | _ => exact other rfl
theorem sd_us (O : TabOk K hb) (S : Sd prog w hb n) (R1 : Room A (n + 1)) (e : Expr) (x : Str) (q : Pos) (hc : isCompE e = true) :
    SmU prog w hb A sc env (fun _ _ _ => True) (evalThenUse e env (fun v => assignAll v ((assignEach [.Name x q] env).map (·.2)))) ℓ (bindC (evS (lv n) sc ℓ e) fun d => optC (bindN sc ℓ x d)) := by
  have R := R1.less (Nat.le_refl n)
  have no : ∀ {t : Sem Unit}, SmU prog w hb A sc env (fun _ _ _ => True) t ℓ (bindC failC fun d : PV => optC (bindN sc ℓ x d)) := fun σ H s Φ I F p e => e.elim
  cases e with
  | ListComp elt gens csc p =>
    cases gens with
    | nil => exact no
    | cons g gens =>
      cases gens with
      | cons _ _ => exact no
      | nil => obtain ⟨target, iter, ifs, as⟩ := g; exact su_ListComp O.glob R.1 (fun ℓ e => S.ev A R sc env ℓ e) (fun env ℓ e => S.ev A R csc env ℓ e) (fun env ℓ e => S.tr A R csc env ℓ e)
  | SetComp a b c d => exact no
  | DictComp a b c d => exact no
  | _ => exact absurd hc Bool.false_ne_true
theorem sd_ex (O : TabOk K hb) (S : ∀ k, k ≤ n → Sd prog w hb k) (R1 : Room A (n + 1)) (st : Stmt) : SmS prog w hb A sc env (exec st env) ℓ (exS (lv n) sc ℓ st) := by
  have R := R1.less (Nat.le_refl n)
  have S0 := S n (Nat.le_refl _)
  have He := fun ℓ e => S0.ev A R sc env ℓ e
  have Hb : ∀ b ℓ, SmS prog w hb A sc env (execs b env) ℓ (exL ((lv n).ex sc) b ℓ) := fun b ℓ => ss_execs fun st _ ℓ => S0.ex A R sc env ℓ st
  cases st with
  | Assign ts e p =>
    cases ts with
    | nil => exact SmS.fail
    | cons t ts =>
      cases ts with
      | cons _ _ => exact SmS.fail
      | nil => exact ss_assign O.kin O.cls R.1 He fun ℓ e x q hc => S0.us A R sc env ℓ e x q hc
  | Expr e p =>
    cases e with
    | Call f as ks q => exact ss_expr (ev := (lv n).ev sc ℓ) (He ℓ _)
    | _ => exact SmS.fail
  | Return v p =>
    cases v with
    | none => exact ss_retNone
    | some e => exact ss_ret (ev := (lv n).ev sc ℓ) (He ℓ e)
  | If t b o p => exact ss_if (tr := (lv n).tr sc ℓ) (S0.tr A R sc env ℓ t) (Hb b ℓ) (Hb o ℓ)
  | While t b o p =>
    cases o with
    | nil => exact ss_while (fun k hk ℓ => (S k hk).tr A (R1.less hk) sc env ℓ t) fun k hk ℓ => ss_execs fun st _ ℓ => (S k hk).ex A (R1.less hk) sc env ℓ st
    | cons _ _ => exact SmS.fail
  | For t it b o p =>
    cases o with
    | nil => exact ss_for O.glob R.1 He (Hb b)
    | cons _ _ => exact SmS.fail
  | _ => exact SmS.fail
theorem sound (O : TabOk K hb) (n : Nat) : Sd prog w hb n := by
  induction n using Nat.strongRecOn with
  | ind n ih =>
    cases n with
    | zero => exact ⟨fun _ _ _ _ _ _ => Sm.fail, fun _ _ _ _ _ _ => Sm.fail, fun A _ sc env ℓ e x q _ => fun σ H s Φ I F p e => e.elim, fun _ _ _ _ _ _ => SmS.fail, fun A R => sd_cl O (fun _ q => nomatch q) R⟩
    | succ n =>
      have S := fun k (hk : k ≤ n) => ih k (Nat.lt_succ_of_le hk)
      have S0 := S n (Nat.le_refl _)
      exact ⟨fun A R sc env ℓ e => sd_ev O S0 R e, fun A R sc env ℓ e => sd_tr O S0 R e, fun A R sc env ℓ e x q hc => sd_us O S0 R e x q hc, fun A R sc env ℓ st => sd_ex O S R st, fun A R => sd_cl O (fun m q => Nat.succ.inj q ▸ S0) R⟩
end
end Mine
namespace Mine
open PySem PySem.W PySem.Calls PyProof.Rows PySem.Spec PySem.SeqAt
theorem lookup_mem {α β : Type} [BEq α] [LawfulBEq α] {a : α} {b : β} {l : List (α × β)} : l.lookup a = some b → (a, b) ∈ l := by
  induction l with
  | nil => exact fun h => nomatch h
  | cons x r ih =>
    intro h
    obtain ⟨x, y⟩ := x
    rw [List.lookup_cons] at h
    cases hx : (a == x) with
    | true => rw [hx] at h; rw [eq_of_beq hx, Option.some.inj h]; exact .head _
    | false => rw [hx] at h; exact .tail _ (ih h)
noncomputable abbrev clsF (K : Frag) (C : Addr) (ci : ClsI) : Prop :=
  makesIn K C = true ∧ findIn K (.ref C) "__getattribute__" = some (some (.builtin "object.__getattribute__")) ∧ findIn K (.ref C) "__getattr__" = some none ∧ findIn K (.ref C) "__setattr__" = some (some (.builtin "object.__setattr__")) ∧
  plainOver K C = true ∧ (clsIn K C).any (·.hasDict) = true ∧ (∀ a ∈ ci.attrs, findIn K (.ref C) a = some none) ∧ (∀ m ∈ ci.meths, (findIn K (.ref C) m.1 = some (some (.ref m.2)) ∧ typeIn K (.ref m.2) = some (.type "function")) ∧ keepIn K (.ref m.2) = true) ∧
  (findIn K (.ref C) "__init__" = some (some (.ref ci.init)) ∧ typeIn K (.ref ci.init) = some (.type "function")) ∧ (∀ p ∈ clsL, kitOne K (.ref C) (.ref p.1) = some (ci.mro.contains p.1)) ∧ keepIn K (.ref C) = true ∧ plainGet K C "__class__" = true ∧ hasDictIn K C = true ∧
  findIn K (.ref C) "__class__" = some (some (.builtin "object.__class__")) ∧ specialIn K (.builtin "object.__class__") "__get__" = some (some (.builtin "getset_descriptor.__get__")) ∧ takesIn K (.builtin "object.__class__") = some true ∧ mroIn K C (.type "object") = some true
theorem clsF_ok {K : Frag} {C : Addr} {ci : ClsI} (h : clsF K C ci) : ClsOk K C ci :=
  ⟨h.1, h.2.1, h.2.2.1, h.2.2.2.1, h.2.2.2.2.1, h.2.2.2.2.2.1, fun a q => h.2.2.2.2.2.2.1 a (List.contains_iff_mem.mp q), fun m f q => h.2.2.2.2.2.2.2.1 (m, f) (lookup_mem q), h.2.2.2.2.2.2.2.2.1, fun D q => let ⟨c, hc⟩ := Option.isSome_iff_exists.mp q; h.2.2.2.2.2.2.2.2.2.1 (D, c) (lookup_mem hc), h.2.2.2.2.2.2.2.2.2.2.1, h.2.2.2.2.2.2.2.2.2.2.2.1, h.2.2.2.2.2.2.2.2.2.2.2.2.1, h.2.2.2.2.2.2.2.2.2.2.2.2.2.1, h.2.2.2.2.2.2.2.2.2.2.2.2.2.2.1, h.2.2.2.2.2.2.2.2.2.2.2.2.2.2.2.1, h.2.2.2.2.2.2.2.2.2.2.2.2.2.2.2.2⟩
theorem clss_ok {K : Frag} (h : clsL.all (fun p => decide (clsF K p.1 p.2)) = true) : ClssOk K := fun C ci e => clsF_ok (of_decide_eq_true (List.all_eq_true.mp h (C, ci) (lookup_mem e)))
noncomputable def fdK (K : Frag) (a : Addr) : Option FuncData := match K.lookup a with
  | some o => (match o.data with | .func fd => some fd | _ => none)
  | none => none
theorem fdK_at {K : Frag} {a : Addr} {fd : FuncData} (h : fdK K a = some fd) : ∃ oc od osl, K.lookup a = some ⟨oc, od, .func fd, osl⟩ := by
  unfold fdK at h
  cases ho : K.lookup a with
  | none => rw [ho] at h; exact nomatch h
  | some o =>
    rw [ho] at h
    obtain ⟨oc, od, odt, osl⟩ := o
    cases odt with
    | func f => exact ⟨oc, od, osl, by rw [Option.some.inj h]⟩
    | _ => exact nomatch h
noncomputable def oneNone (K : Frag) (t : Addr) : Bool := match K.lookup t with
  | some o => (match o.data with | .seq vs _ => decide (vs = #[.none]) | _ => false)
  | none => false
theorem oneNone_ok {K : Frag} {t : Addr} (h : oneNone K t = true) : ∃ o n, K.lookup t = some o ∧ o.data = .seq #[.none] n := by
  unfold oneNone at h
  cases ho : K.lookup t with
  | none => rw [ho] at h; exact nomatch h
  | some o =>
    rw [ho] at h
    obtain ⟨oc, od, odt, osl⟩ := o
    cases odt with
    | seq vs n => exact ⟨_, n, rfl, by rw [of_decide_eq_true h]⟩
    | _ => exact nomatch h
noncomputable def dflF (K : Frag) (opt : Nat) (d : Value) : Bool := match opt with
  | 0 => decide (d = .none)
  | 1 => (match d with | .ref t => oneNone K t | _ => false)
  | _ => false
noncomputable abbrev fnF (K : Frag) (a : Addr) (fi : FnI) (fd : FuncData) : Prop :=
  keepIn K (.ref a) = true ∧ fd.globals = mainGlobals ∧ fd.builtins = builtinsNs ∧ fd.closure = [] ∧ codeIn K fd.code fd.qualname = true ∧ fi.scope.isCoroutine = false ∧ fi.scope.isGenerator = false ∧ fi.scope.kind = .function ∧
  (fd.params.posonlyargs.isEmpty = true ∧ fd.params.kwonlyargs.isEmpty = true ∧ fd.params.vararg.isNone = true ∧ fd.params.kwarg.isNone = true ∧ fd.params.args.map (·.arg) = fi.params ∧ fi.params.Pairwise (· ≠ ·)) ∧
  dflF K fi.opt fd.defaults = true ∧ (fi.opt = 1 → fi.params ≠ []) ∧ (∀ x ∈ fi.params, fi.scope.names.lookup x = some .local ∨ fi.scope.names.lookup x = some .cell) ∧ (∀ x ∈ fi.scope.names, x.2 ≠ .free) ∧ ((cellsFrom 0 fi.scope.names []).map (·.1)).Nodup
theorem fnF_ok {K : Frag} {a : Addr} {fi : FnI} {fd : FuncData} (h0 : fdK K a = some fd) (hb : fd.body = .stmts fi.body) (hs : fd.scope = fi.scope) (h : fnF K a fi fd) : FnOk K a fi fd := by
  have PP : PlainPars fd.params fi.params := ⟨List.isEmpty_iff.mp (h.2.2.2.2.2.2.2.2.1).1, List.isEmpty_iff.mp (h.2.2.2.2.2.2.2.2.1).2.1, Option.isNone_iff_eq_none.mp (h.2.2.2.2.2.2.2.2.1).2.2.1, Option.isNone_iff_eq_none.mp (h.2.2.2.2.2.2.2.2.1).2.2.2.1, (h.2.2.2.2.2.2.2.2.1).2.2.2.2.1, (h.2.2.2.2.2.2.2.2.1).2.2.2.2.2⟩
  refine ⟨h.1, fdK_at h0, hb, hs, h.2.1, h.2.2.1, h.2.2.2.1, h.2.2.2.2.1, h.2.2.2.2.2.1, h.2.2.2.2.2.2.1, h.2.2.2.2.2.2.2.1, ?_, h.2.2.2.2.2.2.2.2.2.2.2.1, h.2.2.2.2.2.2.2.2.2.2.2.2.1, h.2.2.2.2.2.2.2.2.2.2.2.2.2⟩
  have h16 := h.2.2.2.2.2.2.2.2.2.1
  have hne := h.2.2.2.2.2.2.2.2.2.2.1
  cases ho : fi.opt with
  | zero => rw [ho] at h16; exact .inl ⟨rfl, PP, of_decide_eq_true h16⟩
  | succ k =>
    rw [ho] at h16
    cases k with
    | succ _ => exact nomatch h16
    | zero =>
      cases hd : fd.defaults with
      | ref t =>
        rw [hd] at h16
        obtain ⟨o, n, e2, e3⟩ := oneNone_ok h16
        have hne := hne ho
        have e := List.dropLast_concat_getLast hne
        exact .inr ⟨rfl, fi.params.dropLast, fi.params.getLast hne, t, o, n, e.symm, e.symm ▸ PP, rfl, e2, e3⟩
      | _ => rw [hd] at h16; exact nomatch h16
noncomputable def fnChk (K : Frag) (p : Nat × Nat) : Bool := match fdK K p.1 with
  | some fd => decide (fnF K p.1 (pf p.2) fd)
  | none => false
noncomputable abbrev fnBody (K : Frag) (p : Nat × Nat) : Option (FuncBody × Scope) := (fdK K p.1).map fun fd => (fd.body, fd.scope)
end Mine
namespace Mine
open PySem PySem.W PySem.Calls PyProof.Rows PySem.Spec PySem.SeqAt
noncomputable def strsChk : List Value → List PV → Bool
  | [], [] => true
  | .str s _ :: vs, .str s' :: l => decide (s = s') && strsChk vs l
  | _, _ => false
theorem strsChk_ok {hb h : Heap} {σ : Sg} {nx : Nat} {l : List PV} : ∀ {vs : List Value}, strsChk vs l = true → RVs hb h σ nx vs l := by
  induction l with
  | nil =>
    intro vs h
    cases vs with
    | nil => exact .nil
    | cons v vs => cases v <;> exact absurd h Bool.false_ne_true
  | cons d l ih =>
    intro vs h
    cases vs with
    | nil => exact absurd h Bool.false_ne_true
    | cons v vs =>
      cases v with
      | str s t =>
        cases d with
        | str s' =>
          obtain ⟨h1, h2⟩ := Bool.and_eq_true_iff.mp (show (decide (s = s') && strsChk vs l) = true from h)
          rw [of_decide_eq_true h1]
          exact .cons (.str _ _) (ih h2)
        | _ => exact absurd h Bool.false_ne_true
      | _ => exact absurd h Bool.false_ne_true
noncomputable def tupChk (K : Frag) (a : Addr) (l : List PV) : Bool := match K.lookup a with
  | some o => decide (o.cls = .type "tuple") && (match o.data with | .seq vs _ => strsChk vs.toList l | _ => false)
  | none => false
noncomputable def valChk (K : Frag) (v : Value) (d : PV) : Bool := match d with
  | .raw r => decide (v = r)
  | .str s => (match v with | .str s' _ => decide (s' = s) | _ => false)
  | .int i => (match v with | .int j _ => decide (j = i) | _ => false)
  | .tup l => (match v with | .ref a => tupChk K a l | _ => false)
  | _ => false
theorem valChk_ok {K : Frag} {h : Heap} {hb : Heap} {σ : Sg} {nx : Nat} {v : Value} {d : PV} (X : ∀ b o, K.lookup b = some o → h.get? b = some o) (e : valChk K v d = true) : RV hb h σ nx v d := by
  unfold valChk at e
  cases d with
  | raw r => exact of_decide_eq_true e ▸ .raw _
  | str s =>
    cases v with
    | str s' t => exact of_decide_eq_true e ▸ .str _ _
    | _ => exact absurd e Bool.false_ne_true
  | int i =>
    cases v with
    | int j t => exact of_decide_eq_true e ▸ .int _ _
    | _ => exact absurd e Bool.false_ne_true
  | tup l =>
    cases v with
    | ref a =>
      have e : tupChk K a l = true := e
      unfold tupChk at e
      cases ho : K.lookup a with
      | none => rw [ho] at e; exact absurd e Bool.false_ne_true
      | some o =>
        rw [ho] at e
        obtain ⟨oc, od, odt, osl⟩ := o
        obtain ⟨h1, h2⟩ := Bool.and_eq_true_iff.mp e
        cases odt with
        | seq vs m => exact .tup (X _ _ ho) (of_decide_eq_true h1) rfl (strsChk_ok h2)
        | _ => exact absurd h2 Bool.false_ne_true
    | _ => exact absurd e Bool.false_ne_true
  | _ => exact absurd e Bool.false_ne_true
noncomputable def gChk (K : Frag) (p : String × PV) : Bool := match nsIn K mainGlobals p.1 with
  | some (some v) => valChk K v p.2
  | some none => decide (Str.ofString p.1 ≠ "__name__") && (match bootBuiltins p.1 with | some v => valChk K v p.2 | none => false)
  | none => false
theorem gChk_ok {K : Frag} {hb : Heap} {mg mb : Str → Option Value} (X : K.In hb) (G : hb.Ns mainGlobals mg) (B : ∀ x : Str, x ≠ "__name__" → mb x = bootBuiltins x) {p : String × PV} (h : gChk K p = true) :
    ∃ v, (mg (Str.ofString p.1) = some v ∨ (mg (Str.ofString p.1) = none ∧ mb (Str.ofString p.1) = some v)) ∧ ∀ h σ nx, (∀ b o, hb.get? b = some o → h.get? b = some o) → RV hb h σ nx v p.2 := by
  unfold gChk at h
  cases hn : nsIn K mainGlobals p.1 with
  | none => rw [hn] at h; exact absurd h Bool.false_ne_true
  | some q =>
    rw [hn] at h
    cases q with
    | some v => exact ⟨v, .inl (mg_of X G hn), fun h' σ nx k => valChk_ok (X.keeps k) h⟩
    | none =>
      obtain ⟨h1, h2⟩ := Bool.and_eq_true_iff.mp h
      cases hb' : bootBuiltins p.1 with
      | none => rw [hb'] at h2; exact absurd h2 Bool.false_ne_true
      | some v =>
        rw [hb'] at h2
        exact ⟨v, .inr ⟨mg_none_of X G hn, (B _ (of_decide_eq_true h1)).trans hb'⟩, fun h' σ nx k => valChk_ok (X.keeps k) h2⟩
theorem glob_ok {K : Frag} {hb : Heap} {mg mb : Str → Option Value} (X : K.In hb) (G : hb.Ns mainGlobals mg) (Bn : hb.Ns builtinsNs mb) (B : ∀ x : Str, x ≠ "__name__" → mb x = bootBuiltins x) (h : globL.all (gChk K) = true) : GlobOk hb :=
  ⟨mg, mb, G, Bn, fun x d e => by
    obtain ⟨p, hp, hpe⟩ := List.mem_map.mp (lookup_mem e)
    obtain ⟨rfl, rfl⟩ := Prod.mk.inj hpe
    exact gChk_ok X G B (List.all_eq_true.mp h p hp)⟩
theorem fns_ok {K : Frag} (hb : fnIdx.map (fnBody K) = fnIdx.map fun p => some (.stmts (pf p.2).body, (pf p.2).scope)) (h : fnIdx.all (fnChk K) = true) (a : Addr) (fi : FnI) (e : fns a = some fi) : ∃ fd, FnOk K a fi fd := by
  obtain ⟨i, hi, rfl⟩ := Option.map_eq_some_iff.mp e
  have hm := lookup_mem hi
  have h1 := List.map_inj_left.mp hb (a, i) hm
  have h2 := List.all_eq_true.mp h (a, i) hm
  unfold fnChk at h2
  unfold fnBody at h1
  cases hd : fdK K a with
  | none => rw [hd] at h1; exact nomatch h1
  | some fd =>
    rw [hd] at h1 h2
    obtain ⟨q1, q2⟩ := Prod.mk.inj (Option.some.inj h1)
    exact ⟨fd, fnF_ok hd q1 q2 (of_decide_eq_true h2)⟩
structure Seen (K : Frag) : Prop where
  g : globL.all (gChk K) = true
  c : clsL.all (fun p => decide (clsF K p.1 p.2)) = true
  b : fnIdx.map (fnBody K) = fnIdx.map fun p => some (.stmts (pf p.2).body, (pf p.2).scope)
  f : fnIdx.all (fnChk K) = true
theorem tabOk {K : Frag} {hb : Heap} {mg mb : Str → Option Value} (S : Seen K) (X : K.In hb) (G : hb.Ns mainGlobals mg) (Bn : hb.Ns builtinsNs mb) (B : ∀ x : Str, x ≠ "__name__" → mb x = bootBuiltins x) (L : hb.NoLimit) : TabOk K hb :=
  ⟨X, glob_ok X G Bn B S.g, L, clss_ok S.c, fns_ok S.b S.f⟩
end Mine
namespace Mine
open PySem PySem.W PySem.Calls PyProof.Rows PySem.Spec PySem.SeqAt
noncomputable def H00 : PH := ⟨0, fun _ => none⟩
noncomputable def ℓ00 (ns : List Int) : Loc := fun x => if x = "script" then some (.ints ns) else none
noncomputable def lawQ : KV := fun v _ => v = .bool true
theorem law_cl {ns : List Int} : (lv 90).cl 973 [.ints ns] lawQ H00 = exL ((lv 89).ex (pf 134).scope) (pf 134).body (ℓ00 ns) lawQ (fun _ H => lawQ .none H) H00 := by kernel_rfl
theorem law_ex {ns : List Int} (hl : ns.length ≤ 1000) : exL ((lv 89).ex (pf 134).scope) (pf 134).body (ℓ00 ns) lawQ (fun _ H => lawQ .none H) H00 := by
  obtain ⟨e⟩ := law_W (n := 0) (H := H00) (Q := lawQ) hl (fun _ _ => rfl)
  exact law_cl ▸ e
theorem law_scope : (pf 134).scope.names.all (fun p => decide (p.2 ≠ .cell) && decide (p.2 ≠ .free)) = true := by kernel_rfl
theorem law_kind : (pf 134).scope.kind = .function := by kernel_rfl
theorem inv_empty {hb h : Heap} (k : ∀ b o, hb.get? b = some o → h.get? b = some o) : Inv hb (fun _ => (0, 0)) H00 h :=
  ⟨k, fun i _ => rfl, fun i h => absurd h (Nat.not_lt_zero i), fun i h => absurd h (Nat.not_lt_zero i), fun i j h => absurd h (Nat.not_lt_zero i)⟩
structure Ends (prog : Program) (w : World) (A : Around) (t : Sem Flow) (Q : Flow → Shared → Prop) (E : Value → Shared → Prop) (s : Shared) : Prop where
  h : wpAny (model prog w) A t Q E s
section
variable {prog : Program} {w : World} {K : Frag} {hb : Heap} {A : Around}
theorem SmS.run {sc : Scope} {env : Env} {t : Sem Flow} {ℓ : Loc} {m : KV → CM Loc} {σ : Sg} {H : PH} {s : Shared} {kr : KV} {Φ : Loc → PH → Prop} {Q : Flow → Shared → Prop} {E : Value → Shared → Prop}
    (S : SmS prog w hb A sc env t ℓ m) (I : Inv hb σ H s.heap) (F : Frm hb sc env ℓ σ H s.heap) (e : m kr Φ H) (k : KtS prog w hb sc env kr Φ σ H s Q) : Ends prog w A t Q E s := ⟨S σ H s kr Φ I F e Q E k⟩
theorem entry_gen {fi : FnI} {m : Str → Option Value} {a : Addr} {vs : List Value} {ns : List Int} {name : Str} {fa : Addr} {cd : Value} {s : Shared} {Q : Flow → Shared → Prop} {E : Value → Shared → Prop}
    (hex : exL ((lv 89).ex fi.scope) fi.body (ℓ00 ns) lawQ (fun _ H => lawQ .none H) H00) (hsc : fi.scope.names.all (fun p => decide (p.2 ≠ .cell) && decide (p.2 ≠ .free)) = true) (hfk : fi.scope.kind = .function)
    (O : TabOk K hb) (F : Fr hb hb.objs.size s.heap m) (hm : m "script" = some (.ref a)) (hL : hb.IsList a vs.toArray) (hI : IntsAre vs ns) (hA : Room A 89)
    (k : ∀ h' tk', (∀ b o, hb.get? b = some o → h'.get? b = some o) → Q (.ret (.bool true)) { s with heap := h', toks := tk' }) :
    Ends prog w A (execs fi.body (envOf name fi.scope hb.objs.size fa cd)) Q E s := by
  have hno : ∀ x k', fi.scope.names.lookup x = some k' → k' ≠ .cell ∧ k' ≠ .free := fun x k' e => by
    have := Bool.and_eq_true_iff.mp (List.all_eq_true.mp hsc (x, k') (lookup_mem e))
    exact ⟨of_decide_eq_true this.1, of_decide_eq_true this.2⟩
  have hbad : ∀ x, ¬ ((envOf name fi.scope hb.objs.size fa cd).kindOf x = some .cell ∨ (envOf name fi.scope hb.objs.size fa cd).kindOf x = some .free) := fun x h => h.elim (fun h => (hno x _ h).1 rfl) fun h => (hno x _ h).2 rfl
  have noH : ∀ {b}, ¬ Mut (fun _ => (0, 0)) H00.next b := fun ⟨i, h, _⟩ => absurd h (Nat.not_lt_zero i)
  have S := ss_execs (ex := (lv 89).ex fi.scope) (b := fi.body) (ℓ := ℓ00 ns) (fun st _ ℓ => (sound (prog := prog) (w := w) O 89).ex A hA fi.scope (envOf name fi.scope hb.objs.size fa cd) ℓ st)
  refine S.run (inv_empty F.keep) ?_ hex ⟨fun _ _ _ _ _ e => (nomatch (e : PV.none = .bool true)), fun σ' h' tk' v d H' e I' R' rv => ?_⟩
  · refine ⟨⟨fun x k' e => .inl e⟩, hfk, rfl, rfl, ⟨m, F.ns, fun x v e _ => ?_⟩, fun x v _ h => absurd h (hbad x), fun x h => absurd h (hbad x), fun x c h => (nomatch h), List.Pairwise.nil, noH, get_size_none hb, fun x c h => nomatch h⟩
    have e : (if x = "script" then some (PV.ints ns) else none) = some v := e
    by_cases hx : x = "script"
    · rw [if_pos hx] at e
      exact ⟨_, hx ▸ hm, Option.some.inj e ▸ .ints hL hI⟩
    · rw [if_neg hx] at e; exact nomatch e
  · obtain rfl : d = .bool true := e
    obtain rfl : v = .bool true := RV.inv rv
    exact k h' tk' I'.keep
theorem entry {m : Str → Option Value} {a : Addr} {vs : List Value} {ns : List Int} {name : Str} {fa : Addr} {cd : Value} {s : Shared} {Q : Flow → Shared → Prop} {E : Value → Shared → Prop}
    {h₁ : Heap} (hs : s.heap = h₁) (O : TabOk K hb) (F : Fr hb hb.objs.size h₁ m) (hm : m "script" = some (.ref a)) (hL : hb.IsList a vs.toArray) (hI : IntsAre vs ns) (hl : ns.length ≤ 63) (hA : Room A 89)
    (k : ∀ h' tk', (∀ b o, hb.get? b = some o → h'.get? b = some o) → Q (.ret (.bool true)) { s with heap := h', toks := tk' }) :
    Ends prog w A (execs (pf 134).body (envOf name (pf 134).scope hb.objs.size fa cd)) Q E s :=
  entry_gen (law_ex (Nat.le_trans hl (Nat.le_of_ble_eq_true rfl))) law_scope law_kind O (hs ▸ F) hm hL hI hA k
end
theorem postOk (args : List WData) : PySem.Challenge.rw_nt0121_01.row.claim.post args (WData.bool true) args = true := by wrow_post
theorem roomA {env : Env} : Room (callerA.deeper env) 89 := by
  refine ⟨rfl, ?_, ?_⟩
  · show 1 + claimMargin + 1 + 3 * 89 + 3 ≤ recursionLimit
    decide
  · show 4 + 3 + 20 * 89 + 120 < cLine
    decide
end Mine
-- The names Mine.main.tw.. below are those that the head would give to twins of the states that it lays itself; where a name is taken,
-- the head lays no twin and none of its equations (they alone would make the compiled file 442 MB). They are plain facts True and are used nowhere.
set_option Elab.async true
set_option maxHeartbeats 8000000
open PySem PySem.W PyProof.Rows
theorem Mine.main.tw7675930258259734528 : True := trivial
theorem Mine.main.tw11003572833241299968 : True := trivial
theorem Mine.main.tw480701840831765632 : True := trivial
theorem Mine.main.tw7237411587787531456 : True := trivial
theorem Mine.main.tw11774690029378154688 : True := trivial
theorem Mine.main.tw9557352009045844224 : True := trivial
theorem Mine.main.tw5240779543111244032 : True := trivial
theorem Mine.main.tw15438212644395081984 : True := trivial
theorem Mine.main.tw13157206579259725088 : True := trivial
theorem Mine.main.tw2058021452347087232 : True := trivial
theorem Mine.main.tw7073996269223845280 : True := trivial
theorem Mine.main.tw8404659333953806752 : True := trivial
theorem Mine.main.tw6981815665589151136 : True := trivial
theorem Mine.main.tw54841869916938688 : True := trivial
theorem Mine.main.tw12463224122652932544 : True := trivial
theorem Mine.main.tw4491334807805099456 : True := trivial
theorem Mine.main.tw5084117380071580128 : True := trivial
theorem Mine.main.tw11501822485730972192 : True := trivial
theorem Mine.main.tw6541472054586571296 : True := trivial
theorem Mine.main.tw7439787175107056256 : True := trivial
theorem Mine.main.tw9808303207383738048 : True := trivial
theorem Mine.main.tw17495560712657236704 : True := trivial
theorem Mine.main.tw12483276189755474720 : True := trivial
theorem Mine.main.tw12747388180105724736 : True := trivial
theorem Mine.main.tw1027651156746619712 : True := trivial
theorem Mine.main.tw16508919721030705984 : True := trivial
theorem Mine.main.tw6449824600675878752 : True := trivial
theorem Mine.main.tw10201359505653846880 : True := trivial
theorem Mine.main.tw3627144658338631552 : True := trivial
theorem Mine.main.tw9483696857397876608 : True := trivial
theorem Mine.main.tw3796207824708393856 : True := trivial
theorem Mine.main.tw12670839924663504800 : True := trivial
theorem Mine.main.tw14064073609400967072 : True := trivial
theorem Mine.main.tw3590189159078330304 : True := trivial
theorem Mine.main.tw17292155258170135553 : True := trivial
theorem Mine.main.tw12245857906982125569 : True := trivial
theorem Mine.main.tw17402982504261768225 : True := trivial
theorem Mine.main.tw3222223853247747169 : True := trivial
theorem Mine.main.tw9156686268802561153 : True := trivial
theorem Mine.main.tw6214117541549086881 : True := trivial
theorem Mine.main.tw2110754180369666209 : True := trivial
theorem Mine.main.tw17715262827843222689 : True := trivial
theorem Mine.main.tw13676971244355772609 : True := trivial
theorem Mine.main.tw3370190323706015969 : True := trivial
theorem Mine.main.tw17585224947871030625 : True := trivial
theorem Mine.main.tw11614346279706655073 : True := trivial
theorem Mine.main.tw14216407083858561409 : True := trivial
theorem Mine.main.tw9376575566392132001 : True := trivial
theorem Mine.main.tw12255313618399501761 : True := trivial
theorem Mine.main.tw6907636171062424033 : True := trivial
theorem Mine.main.tw2538046985915079169 : True := trivial
theorem Mine.main.tw9406782406253462049 : True := trivial
theorem Mine.main.tw9716624006974247489 : True := trivial
theorem Mine.main.tw6635558491612396129 : True := trivial
theorem Mine.main.tw1242282695825638017 : True := trivial
theorem Mine.main.tw16193401482309157537 : True := trivial
theorem Mine.main.tw12077450504624328385 : True := trivial
theorem Mine.main.tw8879939841973710529 : True := trivial
theorem Mine.main.tw15365013842991253249 : True := trivial
theorem Mine.main.tw892681787802806017 : True := trivial
theorem Mine.main.tw15624239662980076321 : True := trivial
theorem Mine.main.tw14663143327902243649 : True := trivial
theorem Mine.main.tw15109750227778091905 : True := trivial
theorem Mine.main.tw6389877041954997217 : True := trivial
theorem Mine.main.tw11987853993630220354 : True := trivial
theorem Mine.main.tw14168887731352723522 : True := trivial
theorem Mine.main.tw5671064798259553346 : True := trivial
theorem Mine.main.tw3753234271619531906 : True := trivial
theorem Mine.main.tw16135426469972691074 : True := trivial
theorem Mine.main.tw223528310411579522 : True := trivial
theorem Mine.main.tw14698241182937546978 : True := trivial
theorem Mine.main.tw15303317825217679618 : True := trivial
theorem Mine.main.tw2675658811408624930 : True := trivial
theorem Mine.main.tw7411558596216406370 : True := trivial
theorem Mine.main.tw12139096438432415106 : True := trivial
theorem Mine.main.tw9302470337196694018 : True := trivial
theorem Mine.main.tw11752208632293872130 : True := trivial
theorem Mine.main.tw14907226015203709474 : True := trivial
theorem Mine.main.tw13306352142949925410 : True := trivial
theorem Mine.main.tw1306636233014830658 : True := trivial
theorem Mine.main.tw14519047618812278338 : True := trivial
theorem Mine.main.tw16292202817602668162 : True := trivial
theorem Mine.main.tw1410759432943718018 : True := trivial
theorem Mine.main.tw1142173933681417890 : True := trivial
theorem Mine.main.tw6264281720289328834 : True := trivial
theorem Mine.main.tw11785714552879321826 : True := trivial
theorem Mine.main.tw6385024630547198690 : True := trivial
theorem Mine.main.tw1084220662915027778 : True := trivial
theorem Mine.main.tw6508729118710982530 : True := trivial
theorem Mine.main.tw15672986146971166658 : True := trivial
theorem Mine.main.tw3220561703981169602 : True := trivial
theorem Mine.main.tw14666387041718499266 : True := trivial
theorem Mine.main.tw18284262389922463811 : True := trivial
theorem Mine.main.tw1334879513473877059 : True := trivial
theorem Mine.main.tw15467891735981029475 : True := trivial
theorem Mine.main.tw11409991511011244131 : True := trivial
theorem Mine.main.tw4817600198373253283 : True := trivial
theorem Mine.main.tw2007339730380871907 : True := trivial
theorem Mine.main.tw3626430660855392483 : True := trivial
theorem Mine.main.tw4900431672193113347 : True := trivial
theorem Mine.main.tw9957550378297406723 : True := trivial
theorem Mine.main.tw17185042187573640451 : True := trivial
theorem Mine.main.tw15105406205670134051 : True := trivial
theorem Mine.main.tw10609540516017602915 : True := trivial
theorem Mine.main.tw13406003279186336099 : True := trivial
theorem Mine.main.tw15558288988949320067 : True := trivial
theorem Mine.main.tw4605139254293405059 : True := trivial
theorem Mine.main.tw14771111431291430275 : True := trivial
theorem Mine.main.tw14849204138880929251 : True := trivial
theorem Mine.main.tw4475767826048309731 : True := trivial
theorem Mine.main.tw5837888446457221635 : True := trivial
theorem Mine.main.tw12702744160499308131 : True := trivial
theorem Mine.main.tw17403364634526059139 : True := trivial
theorem Mine.main.tw8466321980469482115 : True := trivial
theorem Mine.main.tw49674306023711395 : True := trivial
theorem Mine.main.tw387501639795913443 : True := trivial
theorem Mine.main.tw17146568849442343683 : True := trivial
theorem Mine.main.tw11101190512080308003 : True := trivial
theorem Mine.main.tw16952484285578525507 : True := trivial
theorem Mine.main.tw11126507922826939235 : True := trivial
theorem Mine.main.tw7214478077546791972 : True := trivial
theorem Mine.main.tw8905464785575363620 : True := trivial
theorem Mine.main.tw962032349192862916 : True := trivial
theorem Mine.main.tw13313126695403321540 : True := trivial
theorem Mine.main.tw11374851513655246148 : True := trivial
theorem Mine.main.tw6140287776057189764 : True := trivial
theorem Mine.main.tw7113585516715319716 : True := trivial
theorem Mine.main.tw4502447428920916452 : True := trivial
theorem Mine.main.tw2225956059507018244 : True := trivial
theorem Mine.main.tw10663580350406149668 : True := trivial
theorem Mine.main.tw16757190730947197508 : True := trivial
theorem Mine.main.tw6234934611588079204 : True := trivial
theorem Mine.main.tw1587290215689348708 : True := trivial
theorem Mine.main.tw12222963475772708484 : True := trivial
theorem Mine.main.tw9840939614602229412 : True := trivial
theorem Mine.main.tw15097543051748444868 : True := trivial
theorem Mine.main.tw14539993770535171780 : True := trivial
theorem Mine.main.tw9756827057097773860 : True := trivial
theorem Mine.main.tw11410963132546700228 : True := trivial
theorem Mine.main.tw11125538497796368324 : True := trivial
theorem Mine.main.tw9417822746687237092 : True := trivial
theorem Mine.main.tw6516198228755648517 : True := trivial
theorem Mine.main.tw1390771862084280389 : True := trivial
theorem Mine.main.tw8260724100714396741 : True := trivial
theorem Mine.main.tw8947760058931562597 : True := trivial
theorem Mine.main.tw15312394840280087653 : True := trivial
theorem Mine.main.tw12974819211118642341 : True := trivial
theorem Mine.main.tw14364048958407549093 : True := trivial
theorem Mine.main.tw6910295442248876197 : True := trivial
theorem Mine.main.tw17943756269633507525 : True := trivial
theorem Mine.main.tw11001617756164336837 : True := trivial
theorem Mine.main.tw15277975159832343749 : True := trivial
theorem Mine.main.tw9190990891756207365 : True := trivial
theorem Mine.main.tw16054675910591980869 : True := trivial
theorem Mine.main.tw10953687544409504101 : True := trivial
theorem Mine.main.tw10149618387772673413 : True := trivial
theorem Mine.main.tw2906824675625879941 : True := trivial
theorem Mine.main.tw16451033083921036709 : True := trivial
theorem Mine.main.tw7083192437325867461 : True := trivial
theorem Mine.main.tw16544489699163171333 : True := trivial
theorem Mine.main.tw3298483428156984901 : True := trivial
theorem Mine.main.tw3305931106042330821 : True := trivial
theorem Mine.main.tw15957597259013190341 : True := trivial
theorem Mine.main.tw1714950047550659301 : True := trivial
theorem Mine.main.tw5665406974723832613 : True := trivial
theorem Mine.main.tw1469836325065767749 : True := trivial
theorem Mine.main.tw6935676897619631941 : True := trivial
theorem Mine.main.tw16806246253224384389 : True := trivial
theorem Mine.main.tw13402765919934010277 : True := trivial
theorem Mine.main.tw420114211061813221 : True := trivial
theorem Mine.main.tw2456247091588846565 : True := trivial
theorem Mine.main.tw365850788961202214 : True := trivial
theorem Mine.main.tw6545385358150927430 : True := trivial
theorem Mine.main.tw9903775340124721222 : True := trivial
theorem Mine.main.tw8228058824784995430 : True := trivial
theorem Mine.main.tw15350898050860989542 : True := trivial
theorem Mine.main.tw13597483153833180358 : True := trivial
theorem Mine.main.tw11554813239044494598 : True := trivial
theorem Mine.main.tw6639522245352263942 : True := trivial
theorem Mine.main.tw10750994468655217958 : True := trivial
theorem Mine.main.tw12298629886278197574 : True := trivial
theorem Mine.main.tw4458048076830672230 : True := trivial
theorem Mine.main.tw6511744376749373798 : True := trivial
theorem Mine.main.tw8528285597010949478 : True := trivial
theorem Mine.main.tw10707853282979444102 : True := trivial
theorem Mine.main.tw16952715711813285254 : True := trivial
theorem Mine.main.tw4044139247061151142 : True := trivial
theorem Mine.main.tw7273056430967151046 : True := trivial
theorem Mine.main.tw17297283025540448806 : True := trivial
theorem Mine.main.tw14009396871252706886 : True := trivial
theorem Mine.main.tw471287901995484742 : True := trivial
theorem Mine.main.tw10652863235454686790 : True := trivial
theorem Mine.main.tw10567084921333377638 : True := trivial
theorem Mine.main.tw9681375758050803366 : True := trivial
theorem Mine.main.tw2852251193174398662 : True := trivial
theorem Mine.main.tw5435614590818080486 : True := trivial
theorem Mine.main.tw12909650291622432550 : True := trivial
theorem Mine.main.tw8630832164560146246 : True := trivial
theorem Mine.main.tw2363833142923657126 : True := trivial
theorem Mine.main.tw15614240183184123846 : True := trivial
theorem Mine.main.tw17272174723667511238 : True := trivial
theorem Mine.main.tw15514936471743626214 : True := trivial
theorem Mine.main.tw4838787530573997063 : True := trivial
theorem Mine.main.tw14922970120630734983 : True := trivial
theorem Mine.main.tw12014785543569010823 : True := trivial
theorem Mine.main.tw11476092923266045095 : True := trivial
theorem Mine.main.tw12518504611687188807 : True := trivial
theorem Mine.main.tw16629339528299215175 : True := trivial
theorem Mine.main.tw17737603089517620647 : True := trivial
theorem Mine.main.tw5061512775090418087 : True := trivial
theorem Mine.main.tw13350764725976880583 : True := trivial
theorem Mine.main.tw8475525182357872103 : True := trivial
theorem Mine.main.tw7472368607099979303 : True := trivial
theorem Mine.main.tw16965079339398995527 : True := trivial
theorem Mine.main.tw11135027115929721415 : True := trivial
theorem Mine.main.tw7505749575437840071 : True := trivial
theorem Mine.main.tw470481871638761223 : True := trivial
theorem Mine.main.tw16519101796099990279 : True := trivial
theorem Mine.main.tw18178676814319149831 : True := trivial
theorem Mine.main.tw17644181745481072423 : True := trivial
theorem Mine.main.tw10564528347858357063 : True := trivial
theorem Mine.main.tw1519927702969063271 : True := trivial
theorem Mine.main.tw11261727412033496967 : True := trivial
theorem Mine.main.tw10463206416058312583 : True := trivial
theorem Mine.main.tw16049902774474827687 : True := trivial
theorem Mine.main.tw4324958949535026087 : True := trivial
theorem Mine.main.tw7299474751278700455 : True := trivial
theorem Mine.main.tw5781596087445459943 : True := trivial
theorem Mine.main.tw4039676971129161736 : True := trivial
theorem Mine.main.tw12594366453804578888 : True := trivial
theorem Mine.main.tw13132915859168520264 : True := trivial
theorem Mine.main.tw9573086628692744296 : True := trivial
theorem Mine.main.tw14562738103837258888 : True := trivial
theorem Mine.main.tw52199770228462824 : True := trivial
theorem Mine.main.tw15079240505294077160 : True := trivial
theorem Mine.main.tw11403851563620829512 : True := trivial
theorem Mine.main.tw6161133996638707016 : True := trivial
theorem Mine.main.tw12455012482086183272 : True := trivial
theorem Mine.main.tw17201416709059790184 : True := trivial
theorem Mine.main.tw1615956725737779560 : True := trivial
theorem Mine.main.tw3714520120236048840 : True := trivial
theorem Mine.main.tw12057704586751987240 : True := trivial
theorem Mine.main.tw4452170602077327944 : True := trivial
theorem Mine.main.tw14161005256144132680 : True := trivial
theorem Mine.main.tw16355746345580011080 : True := trivial
theorem Mine.main.tw5768018617931124328 : True := trivial
theorem Mine.main.tw7308723440029596264 : True := trivial
theorem Mine.main.tw14864641218109852296 : True := trivial
theorem Mine.main.tw14097447854668400296 : True := trivial
theorem Mine.main.tw7751025194823839400 : True := trivial
theorem Mine.main.tw15734660467963936456 : True := trivial
theorem Mine.main.tw6404898279339705064 : True := trivial
theorem Mine.main.tw7972779244933481256 : True := trivial
theorem Mine.main.tw8283060676807011144 : True := trivial
theorem Mine.main.tw3706830351922483016 : True := trivial
theorem Mine.main.tw10140136200207757160 : True := trivial
theorem Mine.main.tw1270039299266317192 : True := trivial
theorem Mine.main.tw10418042200766032776 : True := trivial
theorem Mine.main.tw7142256002058171272 : True := trivial
theorem Mine.main.tw1980160206288974728 : True := trivial
theorem Mine.main.tw1830260536990523401 : True := trivial
theorem Mine.main.tw6535589618603614281 : True := trivial
theorem Mine.main.tw1415428593365352553 : True := trivial
theorem Mine.main.tw3056878081241006185 : True := trivial
theorem Mine.main.tw4908570168794737769 : True := trivial
theorem Mine.main.tw10450603732522932521 : True := trivial
theorem Mine.main.tw13077236301305049449 : True := trivial
theorem Mine.main.tw17268439761433841065 : True := trivial
theorem Mine.main.tw4261964983698606537 : True := trivial
theorem Mine.main.tw15589955886551607785 : True := trivial
theorem Mine.main.tw13693970394777133609 : True := trivial
theorem Mine.main.tw17699438841360665129 : True := trivial
theorem Mine.main.tw2343935838158425641 : True := trivial
theorem Mine.main.tw18195925520682101353 : True := trivial
theorem Mine.main.tw8828626079734051433 : True := trivial
theorem Mine.main.tw12431731261707249289 : True := trivial
theorem Mine.main.tw234599468654550697 : True := trivial
theorem Mine.main.tw2402762420636078793 : True := trivial
theorem Mine.main.tw588950844065142505 : True := trivial
theorem Mine.main.tw5677329702179833609 : True := trivial
theorem Mine.main.tw1454224541498743561 : True := trivial
theorem Mine.main.tw11020365191643786025 : True := trivial
theorem Mine.main.tw10483362588635715401 : True := trivial
theorem Mine.main.tw3557749057250611081 : True := trivial
theorem Mine.main.tw2900998541784483753 : True := trivial
theorem Mine.main.tw4990475226369331113 : True := trivial
theorem Mine.main.tw11595355409239048105 : True := trivial
theorem Mine.main.tw2428412748925179849 : True := trivial
theorem Mine.main.tw18446094637698972617 : True := trivial
theorem Mine.main.tw10625486282989778954 : True := trivial
theorem Mine.main.tw13447304073604360266 : True := trivial
theorem Mine.main.tw5240536507193477226 : True := trivial
theorem Mine.main.tw14218914174604095658 : True := trivial
theorem Mine.main.tw2566753976717531306 : True := trivial
theorem Mine.main.tw2033968301974640842 : True := trivial
theorem Mine.main.tw9626384672669237482 : True := trivial
theorem Mine.main.tw18431692314602308842 : True := trivial
theorem Mine.main.tw161903638078081290 : True := trivial
theorem Mine.main.tw6237627108579964202 : True := trivial
theorem Mine.main.tw8548823596671561066 : True := trivial
theorem Mine.main.tw14406990849044604362 : True := trivial
theorem Mine.main.tw2965820268544440810 : True := trivial
theorem Mine.main.tw1504049600530537962 : True := trivial
theorem Mine.main.tw12570134572688502250 : True := trivial
theorem Mine.main.tw1628013610222277130 : True := trivial
theorem Mine.main.tw4534045978639718922 : True := trivial
theorem Mine.main.tw17290568124846718506 : True := trivial
theorem Mine.main.tw13113777628852026922 : True := trivial
theorem Mine.main.tw11463369355524808266 : True := trivial
theorem Mine.main.tw2524771143324633706 : True := trivial
theorem Mine.main.tw5502569546826302122 : True := trivial
theorem Mine.main.tw16765925921980633802 : True := trivial
theorem Mine.main.tw16203622797070002922 : True := trivial
theorem Mine.main.tw1319676515408343850 : True := trivial
theorem Mine.main.tw7697417962357392202 : True := trivial
theorem Mine.main.tw1041082287264499562 : True := trivial
theorem Mine.main.tw10334261112615635914 : True := trivial
theorem Mine.main.tw9011639564254621642 : True := trivial
theorem Mine.main.tw104360540948158410 : True := trivial
theorem Mine.main.tw6087835443962453003 : True := trivial
theorem Mine.main.tw11710404883906591787 : True := trivial
theorem Mine.main.tw12519306246395310219 : True := trivial
theorem Mine.main.tw12987577155417789579 : True := trivial
theorem Mine.main.tw18165044119631177899 : True := trivial
theorem Mine.main.tw10123989817122485451 : True := trivial
theorem Mine.main.tw5842977544298395883 : True := trivial
theorem Mine.main.tw11049269918873537771 : True := trivial
theorem Mine.main.tw2127038452521536779 : True := trivial
theorem Mine.main.tw14336716466608126219 : True := trivial
theorem Mine.main.tw16501172079758305675 : True := trivial
theorem Mine.main.tw10169072693733980587 : True := trivial
theorem Mine.main.tw833945537157984683 : True := trivial
theorem Mine.main.tw2496676261509829067 : True := trivial
theorem Mine.main.tw750237026923860459 : True := trivial
theorem Mine.main.tw4330594992337426955 : True := trivial
theorem Mine.main.tw4592260682591058475 : True := trivial
theorem Mine.main.tw7563215957194029611 : True := trivial
theorem Mine.main.tw2279707942289718827 : True := trivial
theorem Mine.main.tw832900586485598795 : True := trivial
theorem Mine.main.tw4047586217144654443 : True := trivial
theorem Mine.main.tw6788530277367551627 : True := trivial
theorem Mine.main.tw5004366561265856203 : True := trivial
theorem Mine.main.tw11189897345809495819 : True := trivial
theorem Mine.main.tw4075928730494220171 : True := trivial
theorem Mine.main.tw5790326737455844299 : True := trivial
theorem Mine.main.tw8102450764968551371 : True := trivial
theorem Mine.main.tw7846812961960373227 : True := trivial
theorem Mine.main.tw17708487481403421675 : True := trivial
theorem Mine.main.tw16689149305811164139 : True := trivial
theorem Mine.main.tw11646826074482590764 : True := trivial
theorem Mine.main.tw16721930046160240684 : True := trivial
theorem Mine.main.tw15970538086172389420 : True := trivial
theorem Mine.main.tw4244067443239231564 : True := trivial
theorem Mine.main.tw4420394385881154636 : True := trivial
theorem Mine.main.tw6921685317656363116 : True := trivial
theorem Mine.main.tw14020873708864708748 : True := trivial
theorem Mine.main.tw7070123817558143148 : True := trivial
theorem Mine.main.tw3262662943086543052 : True := trivial
theorem Mine.main.tw14377536511252160716 : True := trivial
theorem Mine.main.tw12732289081945773324 : True := trivial
theorem Mine.main.tw8663697691656813868 : True := trivial
theorem Mine.main.tw6801380410627298636 : True := trivial
theorem Mine.main.tw8930851030842425676 : True := trivial
theorem Mine.main.tw15131278010643852716 : True := trivial
theorem Mine.main.tw1318968915056948652 : True := trivial
theorem Mine.main.tw13591255225166038476 : True := trivial
theorem Mine.main.tw18315214858253571532 : True := trivial
theorem Mine.main.tw18302796317244248524 : True := trivial
theorem Mine.main.tw9512817274939609580 : True := trivial
theorem Mine.main.tw1130211791997205004 : True := trivial
theorem Mine.main.tw8707812797481193996 : True := trivial
theorem Mine.main.tw8090509862211737132 : True := trivial
theorem Mine.main.tw14639212616227390028 : True := trivial
theorem Mine.main.tw15418377640929051212 : True := trivial
theorem Mine.main.tw10199874654664476236 : True := trivial
theorem Mine.main.tw14814594519894181452 : True := trivial
theorem Mine.main.tw12324921354453157484 : True := trivial
theorem Mine.main.tw9274054859765456524 : True := trivial
theorem Mine.main.tw14313897822631088780 : True := trivial
theorem Mine.main.tw14390754486103292620 : True := trivial
theorem Mine.main.tw4637267157515435788 : True := trivial
theorem Mine.main.tw6690441779611380620 : True := trivial
theorem Mine.main.tw15595112118272840620 : True := trivial
theorem Mine.main.tw12093647306153771053 : True := trivial
theorem Mine.main.tw7186131708394509389 : True := trivial
theorem Mine.main.tw18134284020713443437 : True := trivial
theorem Mine.main.tw2542808073141276813 : True := trivial
theorem Mine.main.tw7699798408344515789 : True := trivial
theorem Mine.main.tw9381886862466946253 : True := trivial
theorem Mine.main.tw12170992721606120685 : True := trivial
theorem Mine.main.tw854977524454699277 : True := trivial
theorem Mine.main.tw3466206800631347469 : True := trivial
theorem Mine.main.tw5181119749688162637 : True := trivial
theorem Mine.main.tw14443092014599818573 : True := trivial
theorem Mine.main.tw7875838824674609581 : True := trivial
theorem Mine.main.tw4585930131862741453 : True := trivial
theorem Mine.main.tw5456330333991267789 : True := trivial
theorem Mine.main.tw10625986939718819309 : True := trivial
theorem Mine.main.tw8681388529863501421 : True := trivial
theorem Mine.main.tw17413556829735388813 : True := trivial
theorem Mine.main.tw1178595665728414349 : True := trivial
theorem Mine.main.tw8484041278411425421 : True := trivial
theorem Mine.main.tw1632041292262086317 : True := trivial
theorem Mine.main.tw10047389527955405517 : True := trivial
theorem Mine.main.tw18288009448212308685 : True := trivial
theorem Mine.main.tw15445229340043853549 : True := trivial
theorem Mine.main.tw545269030811804461 : True := trivial
theorem Mine.main.tw8634654232796393261 : True := trivial
theorem Mine.main.tw13532707612510029741 : True := trivial
theorem Mine.main.tw9175052073728820173 : True := trivial
theorem Mine.main.tw13962693860625380366 : True := trivial
theorem Mine.main.tw6053611964639427726 : True := trivial
theorem Mine.main.tw6657087868060814 : True := trivial
theorem Mine.main.tw12800608258095302798 : True := trivial
theorem Mine.main.tw16959884160788844718 : True := trivial
theorem Mine.main.tw13965128551521907918 : True := trivial
theorem Mine.main.tw15643365686152983790 : True := trivial
theorem Mine.main.tw3459380146013217038 : True := trivial
theorem Mine.main.tw3562595001068472590 : True := trivial
theorem Mine.main.tw979501456738626862 : True := trivial
theorem Mine.main.tw2287757881348798766 : True := trivial
theorem Mine.main.tw3994622017586750766 : True := trivial
theorem Mine.main.tw451873465583785326 : True := trivial
theorem Mine.main.tw13348322127785295214 : True := trivial
theorem Mine.main.tw6912675738884088206 : True := trivial
theorem Mine.main.tw1826329307503635854 : True := trivial
theorem Mine.main.tw13974046611088194958 : True := trivial
theorem Mine.main.tw7332552209862256014 : True := trivial
theorem Mine.main.tw8488872178611200430 : True := trivial
theorem Mine.main.tw2019394398466159022 : True := trivial
theorem Mine.main.tw4650958065196391918 : True := trivial
theorem Mine.main.tw16026485685270457870 : True := trivial
theorem Mine.main.tw5127751686995613262 : True := trivial
theorem Mine.main.tw15244097889725654702 : True := trivial
theorem Mine.main.tw8249873531624179374 : True := trivial
theorem Mine.main.tw983542388872702638 : True := trivial
theorem Mine.main.tw13642826006792871662 : True := trivial
theorem Mine.main.tw6455149578367423246 : True := trivial
theorem Mine.main.tw13972245371655741198 : True := trivial
theorem Mine.main.tw5532463470591059822 : True := trivial
theorem Mine.main.tw15606653302220566414 : True := trivial
theorem Mine.main.tw3779293765908593550 : True := trivial
theorem Mine.main.tw1678875084529416142 : True := trivial
theorem Mine.main.tw4630824681090250767 : True := trivial
theorem Mine.main.tw9368617206455126095 : True := trivial
theorem Mine.main.tw13148611719377898607 : True := trivial
theorem Mine.main.tw8478376212529829071 : True := trivial
theorem Mine.main.tw15136431859952498927 : True := trivial
theorem Mine.main.tw16877947373546393871 : True := trivial
theorem Mine.main.tw18421580907717582127 : True := trivial
theorem Mine.main.tw14637806741061077295 : True := trivial
theorem Mine.main.tw14650418986710179151 : True := trivial
theorem Mine.main.tw2976744350696088943 : True := trivial
theorem Mine.main.tw15387884906608193903 : True := trivial
theorem Mine.main.tw17456035664235451855 : True := trivial
theorem Mine.main.tw7895547168160840143 : True := trivial
theorem Mine.main.tw11982392923317675503 : True := trivial
theorem Mine.main.tw17510229520200029679 : True := trivial
theorem Mine.main.tw3203809635103463919 : True := trivial
theorem Mine.main.tw17871620999419790863 : True := trivial
theorem Mine.main.tw9272984997812220495 : True := trivial
theorem Mine.main.tw10234815189450012239 : True := trivial
theorem Mine.main.tw4946776927847147119 : True := trivial
theorem Mine.main.tw15140838672463199983 : True := trivial
theorem Mine.main.tw6696893160125735727 : True := trivial
theorem Mine.main.tw1372806426800153423 : True := trivial
theorem Mine.main.tw15461212566085484399 : True := trivial
theorem Mine.main.tw9964214247947446159 : True := trivial
theorem Mine.main.tw3485684062173492111 : True := trivial
theorem Mine.main.tw17725498274588495791 : True := trivial
theorem Mine.main.tw7514964652732493775 : True := trivial
theorem Mine.main.tw5104194264097766351 : True := trivial
theorem Mine.main.tw18035569047802679279 : True := trivial
theorem Mine.main.tw5400957986263281647 : True := trivial
theorem Mine.main.tw14798791472264738832 : True := trivial
theorem Mine.main.tw6437645805973890128 : True := trivial
theorem Mine.main.tw5418533224930618480 : True := trivial
theorem Mine.main.tw9805168224760091760 : True := trivial
theorem Mine.main.tw6877560268529008848 : True := trivial
theorem Mine.main.tw16546708837969263888 : True := trivial
theorem Mine.main.tw6565609875121592624 : True := trivial
theorem Mine.main.tw13260870731297125680 : True := trivial
theorem Mine.main.tw15734200111481486640 : True := trivial
theorem Mine.main.tw12885673836220544336 : True := trivial
theorem Mine.main.tw18190005008629794160 : True := trivial
theorem Mine.main.tw8729708805864041840 : True := trivial
theorem Mine.main.tw4681395471914393968 : True := trivial
theorem Mine.main.tw2702614204127132176 : True := trivial
theorem Mine.main.tw17974016328880235120 : True := trivial
theorem Mine.main.tw6768520987592691376 : True := trivial
theorem Mine.main.tw12748397558918655664 : True := trivial
theorem Mine.main.tw12942913107403878096 : True := trivial
theorem Mine.main.tw17118054049896295152 : True := trivial
theorem Mine.main.tw16153351446899991344 : True := trivial
theorem Mine.main.tw5871769198996169552 : True := trivial
theorem Mine.main.tw6542085627976250192 : True := trivial
theorem Mine.main.tw11614107205274993552 : True := trivial
theorem Mine.main.tw12564604832814323664 : True := trivial
theorem Mine.main.tw8651587035891514320 : True := trivial
theorem Mine.main.tw16008252555379753968 : True := trivial
theorem Mine.main.tw13667920496262714385 : True := trivial
theorem Mine.main.tw16572128252103988241 : True := trivial
theorem Mine.main.tw12304082900475741265 : True := trivial
theorem Mine.main.tw6559806142732475569 : True := trivial
theorem Mine.main.tw2544328076492683441 : True := trivial
theorem Mine.main.tw11041858737867550897 : True := trivial
theorem Mine.main.tw10283388844273144081 : True := trivial
theorem Mine.main.tw5921134243170700561 : True := trivial
theorem Mine.main.tw4439460323829122385 : True := trivial
theorem Mine.main.tw358491910552652209 : True := trivial
theorem Mine.main.tw16251939892948500945 : True := trivial
theorem Mine.main.tw14235155234550121937 : True := trivial
theorem Mine.main.tw12839114828313443825 : True := trivial
theorem Mine.main.tw4072190877284726289 : True := trivial
theorem Mine.main.tw9897820754763898449 : True := trivial
theorem Mine.main.tw13980345723018547825 : True := trivial
theorem Mine.main.tw1429040668314091153 : True := trivial
theorem Mine.main.tw15579395750891953841 : True := trivial
theorem Mine.main.tw3960113756560652017 : True := trivial
theorem Mine.main.tw11967333016625521393 : True := trivial
theorem Mine.main.tw16033097090804400913 : True := trivial
theorem Mine.main.tw9682133043923132273 : True := trivial
theorem Mine.main.tw17147588175821073265 : True := trivial
theorem Mine.main.tw12885385263037960081 : True := trivial
theorem Mine.main.tw16424990018577422225 : True := trivial
theorem Mine.main.tw2571504870844130225 : True := trivial
theorem Mine.main.tw11120327062377616369 : True := trivial
theorem Mine.main.tw7093617532817203218 : True := trivial
theorem Mine.main.tw18031918436515192882 : True := trivial
theorem Mine.main.tw4700634183742618674 : True := trivial
theorem Mine.main.tw17767330081159143506 : True := trivial
theorem Mine.main.tw6632538468102435922 : True := trivial
theorem Mine.main.tw587328917346081906 : True := trivial
theorem Mine.main.tw16817993663026736274 : True := trivial
theorem Mine.main.tw8708525158762292434 : True := trivial
theorem Mine.main.tw7358134578952683730 : True := trivial
theorem Mine.main.tw5518243967957118194 : True := trivial
theorem Mine.main.tw11403970630465759474 : True := trivial
theorem Mine.main.tw16304157974115477746 : True := trivial
theorem Mine.main.tw12608185968620612914 : True := trivial
theorem Mine.main.tw3635900802997115186 : True := trivial
theorem Mine.main.tw341453280667917650 : True := trivial
theorem Mine.main.tw918671981122897330 : True := trivial
theorem Mine.main.tw14909365282108701170 : True := trivial
theorem Mine.main.tw3748114642381145586 : True := trivial
theorem Mine.main.tw9508770018378322450 : True := trivial
theorem Mine.main.tw14161465996007527954 : True := trivial
theorem Mine.main.tw17647351573629430322 : True := trivial
theorem Mine.main.tw4189750870438640210 : True := trivial
theorem Mine.main.tw11490900464029743698 : True := trivial
theorem Mine.main.tw14027650596787315314 : True := trivial
theorem Mine.main.tw12332102779922042578 : True := trivial
theorem Mine.main.tw5797031442667253490 : True := trivial
theorem Mine.main.tw6880717277089553138 : True := trivial
theorem Mine.main.tw1439166485080882 : True := trivial
theorem Mine.main.tw7929128423345735474 : True := trivial
theorem Mine.main.tw8984930932524396370 : True := trivial
theorem Mine.main.tw4573282807186111410 : True := trivial
theorem Mine.main.tw1781223760143429554 : True := trivial
theorem Mine.main.tw10652611922669240339 : True := trivial
theorem Mine.main.tw13227692790652741651 : True := trivial
theorem Mine.main.tw17679725944135375923 : True := trivial
theorem Mine.main.tw16136984950599521427 : True := trivial
theorem Mine.main.tw12590340796369385619 : True := trivial
theorem Mine.main.tw14635473669698735251 : True := trivial
theorem Mine.main.tw6252391252262179987 : True := trivial
theorem Mine.main.tw4651154628705390771 : True := trivial
theorem Mine.main.tw2714283472998740243 : True := trivial
theorem Mine.main.tw8127475511531132179 : True := trivial
theorem Mine.main.tw16102231251864390963 : True := trivial
theorem Mine.main.tw11405101455947879731 : True := trivial
theorem Mine.main.tw5450094653865882931 : True := trivial
theorem Mine.main.tw2156145737304315219 : True := trivial
theorem Mine.main.tw4365514962571936147 : True := trivial
theorem Mine.main.tw10114013102757674387 : True := trivial
theorem Mine.main.tw6785657489111691699 : True := trivial
theorem Mine.main.tw1289389943133740499 : True := trivial
theorem Mine.main.tw7884273913378172499 : True := trivial
theorem Mine.main.tw5352104535322881683 : True := trivial
theorem Mine.main.tw8928990268580360915 : True := trivial
theorem Mine.main.tw8207831470162742035 : True := trivial
theorem Mine.main.tw1261021989165538067 : True := trivial
theorem Mine.main.tw5890889631881817875 : True := trivial
theorem Mine.main.tw16755849432154420019 : True := trivial
theorem Mine.main.tw10665089971535097683 : True := trivial
theorem Mine.main.tw5585478044538960755 : True := trivial
theorem Mine.main.tw17016820405989369747 : True := trivial
theorem Mine.main.tw4216741518440994707 : True := trivial
theorem Mine.main.tw15059693217772790739 : True := trivial
theorem Mine.main.tw6868236387235032019 : True := trivial
theorem Mine.main.tw6674386428176565332 : True := trivial
theorem Mine.main.tw3867218068155391060 : True := trivial
theorem Mine.main.tw3532412968194664532 : True := trivial
theorem Mine.main.tw15533708244289586292 : True := trivial
theorem Mine.main.tw6862268138105152660 : True := trivial
theorem Mine.main.tw11086099901593105684 : True := trivial
theorem Mine.main.tw3160845607165458772 : True := trivial
theorem Mine.main.tw17561526911342447988 : True := trivial
theorem Mine.main.tw9488428017035680116 : True := trivial
theorem Mine.main.tw16826212616301561204 : True := trivial
theorem Mine.main.tw9483120023164983764 : True := trivial
theorem Mine.main.tw3045742163950154196 : True := trivial
theorem Mine.main.tw11735423636902730196 : True := trivial
theorem Mine.main.tw17955113974868833780 : True := trivial
theorem Mine.main.tw11156056980113079860 : True := trivial
theorem Mine.main.tw7010351842590255796 : True := trivial
theorem Mine.main.tw15540984915698410164 : True := trivial
theorem Mine.main.tw5461779845614304980 : True := trivial
theorem Mine.main.tw2821470743931037460 : True := trivial
theorem Mine.main.tw1615045767204293396 : True := trivial
theorem Mine.main.tw17958375852430007124 : True := trivial
theorem Mine.main.tw5638201095994319732 : True := trivial
theorem Mine.main.tw16218864148678617972 : True := trivial
theorem Mine.main.tw1519992759497675636 : True := trivial
theorem Mine.main.tw2195194259037543316 : True := trivial
theorem Mine.main.tw8754357760408615828 : True := trivial
theorem Mine.main.tw10896356407431480244 : True := trivial
theorem Mine.main.tw3464709057266567092 : True := trivial
theorem Mine.main.tw6584820252761975732 : True := trivial
theorem Mine.main.tw9189880136782149556 : True := trivial
theorem Mine.main.tw3288582142898991060 : True := trivial
theorem Mine.main.tw16863156106696720372 : True := trivial
theorem Mine.main.tw8844999433837080629 : True := trivial
theorem Mine.main.tw2341703837736514645 : True := trivial
theorem Mine.main.tw15928290008803537013 : True := trivial
theorem Mine.main.tw14722489848711283861 : True := trivial
theorem Mine.main.tw18442785490491869365 : True := trivial
theorem Mine.main.tw2921958311620399285 : True := trivial
theorem Mine.main.tw3394367416137920725 : True := trivial
theorem Mine.main.tw14535484193269619989 : True := trivial
theorem Mine.main.tw3027586509356016917 : True := trivial
theorem Mine.main.tw453184122279072053 : True := trivial
theorem Mine.main.tw4544244032028310869 : True := trivial
theorem Mine.main.tw13724616953566380437 : True := trivial
theorem Mine.main.tw3136416535801588117 : True := trivial
theorem Mine.main.tw1075715825243056693 : True := trivial
theorem Mine.main.tw5363903885879670357 : True := trivial
theorem Mine.main.tw3454311308915712629 : True := trivial
theorem Mine.main.tw13293747886898857621 : True := trivial
theorem Mine.main.tw12489469225927875285 : True := trivial
theorem Mine.main.tw10363585996791799541 : True := trivial
theorem Mine.main.tw16651728564920304373 : True := trivial
theorem Mine.main.tw3137596982192898869 : True := trivial
theorem Mine.main.tw10159738436595150677 : True := trivial
theorem Mine.main.tw15371371512377873269 : True := trivial
theorem Mine.main.tw11550072657307891605 : True := trivial
theorem Mine.main.tw9287587430799945685 : True := trivial
theorem Mine.main.tw12205347405646519318 : True := trivial
theorem Mine.main.tw18344032359734412310 : True := trivial
theorem Mine.main.tw2173562974560187446 : True := trivial
theorem Mine.main.tw330327031418712150 : True := trivial
theorem Mine.main.tw8557395850702784662 : True := trivial
theorem Mine.main.tw17298425922696826006 : True := trivial
theorem Mine.main.tw6674893403203295414 : True := trivial
theorem Mine.main.tw14492832472218066102 : True := trivial
theorem Mine.main.tw14061640607465278742 : True := trivial
theorem Mine.main.tw9561784451562097942 : True := trivial
theorem Mine.main.tw6605025701479795990 : True := trivial
theorem Mine.main.tw4719957520787936630 : True := trivial
theorem Mine.main.tw9392487213469676918 : True := trivial
theorem Mine.main.tw17904854198161793398 : True := trivial
theorem Mine.main.tw16379040101783942550 : True := trivial
theorem Mine.main.tw3848698983108048278 : True := trivial
theorem Mine.main.tw12031971508603222422 : True := trivial
theorem Mine.main.tw13590572293223372214 : True := trivial
theorem Mine.main.tw7091891720358583798 : True := trivial
theorem Mine.main.tw17864028415675338326 : True := trivial
theorem Mine.main.tw4749052000479324790 : True := trivial
theorem Mine.main.tw10101900104965146230 : True := trivial
theorem Mine.main.tw7884331609784382070 : True := trivial
theorem Mine.main.tw11019096307435631222 : True := trivial
theorem Mine.main.tw5534937755968359062 : True := trivial
theorem Mine.main.tw10255180020182114038 : True := trivial
theorem Mine.main.tw1850612553970854742 : True := trivial
theorem Mine.main.tw3549514262204291990 : True := trivial
theorem Mine.main.tw16320729459185622934 : True := trivial
theorem Mine.main.tw11129844816282181526 : True := trivial
theorem Mine.main.tw4026956272090484662 : True := trivial
theorem Mine.main.tw11388154006635350966 : True := trivial
theorem Mine.main.tw10665469846841522134 : True := trivial
theorem Mine.main.tw2190695567426971638 : True := trivial
theorem Mine.main.tw4193505271845495863 : True := trivial
theorem Mine.main.tw18328743936084910167 : True := trivial
theorem Mine.main.tw16832360635688203351 : True := trivial
theorem Mine.main.tw8281396171620568247 : True := trivial
theorem Mine.main.tw16790050636404226231 : True := trivial
theorem Mine.main.tw16128220689672181975 : True := trivial
theorem Mine.main.tw7297187181890747607 : True := trivial
theorem Mine.main.tw2136821422063795447 : True := trivial
theorem Mine.main.tw6663778134991626487 : True := trivial
theorem Mine.main.tw10821422270917381399 : True := trivial
theorem Mine.main.tw2238316416991798583 : True := trivial
theorem Mine.main.tw785246043732427063 : True := trivial
theorem Mine.main.tw17453503289922162039 : True := trivial
theorem Mine.main.tw1150287232629052791 : True := trivial
theorem Mine.main.tw18385570937342765463 : True := trivial
theorem Mine.main.tw8652556701797213591 : True := trivial
theorem Mine.main.tw6596593509180878263 : True := trivial
theorem Mine.main.tw14106445559736802775 : True := trivial
theorem Mine.main.tw7974275031393228247 : True := trivial
theorem Mine.main.tw8834365191522931223 : True := trivial
theorem Mine.main.tw5401703158475992631 : True := trivial
theorem Mine.main.tw1216228984421328439 : True := trivial
theorem Mine.main.tw18218335207050127959 : True := trivial
theorem Mine.main.tw18063282731904131703 : True := trivial
theorem Mine.main.tw18325589031809861271 : True := trivial
theorem Mine.main.tw2895952525429962455 : True := trivial
theorem Mine.main.tw2921621734765799159 : True := trivial
theorem Mine.main.tw7691172733374981047 : True := trivial
theorem Mine.main.tw16126255521741880247 : True := trivial
theorem Mine.main.tw6862492499505807319 : True := trivial
theorem Mine.main.tw10877679251791092727 : True := trivial
theorem Mine.main.tw9925469786538053656 : True := trivial
theorem Mine.main.tw15580989882048331800 : True := trivial
theorem Mine.main.tw16641786646906312760 : True := trivial
theorem Mine.main.tw11741537727913789688 : True := trivial
theorem Mine.main.tw6254453501864316152 : True := trivial
theorem Mine.main.tw7472237861779093752 : True := trivial
theorem Mine.main.tw15282798724139172088 : True := trivial
theorem Mine.main.tw5102693214775723256 : True := trivial
theorem Mine.main.tw17067035981215421688 : True := trivial
theorem Mine.main.tw1157997071576566072 : True := trivial
theorem Mine.main.tw8809968196449919288 : True := trivial
theorem Mine.main.tw799486724532869496 : True := trivial
theorem Mine.main.tw6283666216762299864 : True := trivial
theorem Mine.main.tw6483966928607899096 : True := trivial
theorem Mine.main.tw12027323910402764344 : True := trivial
theorem Mine.main.tw1409966394225722968 : True := trivial
theorem Mine.main.tw4644634924443464280 : True := trivial
theorem Mine.main.tw1156462466702112376 : True := trivial
theorem Mine.main.tw9656510801202774680 : True := trivial
theorem Mine.main.tw17236958762192778904 : True := trivial
theorem Mine.main.tw9293455121233016472 : True := trivial
theorem Mine.main.tw13626721169425172152 : True := trivial
theorem Mine.main.tw11183452524601008856 : True := trivial
theorem Mine.main.tw12106859168716417752 : True := trivial
theorem Mine.main.tw9848185148710128376 : True := trivial
theorem Mine.main.tw2744014450722944760 : True := trivial
theorem Mine.main.tw15225127925928830808 : True := trivial
theorem Mine.main.tw11692516046256081784 : True := trivial
theorem Mine.main.tw7624293977416268664 : True := trivial
theorem Mine.main.tw11815829001073249272 : True := trivial
theorem Mine.main.tw9369988214560726041 : True := trivial
theorem Mine.main.tw8440099810896429113 : True := trivial
theorem Mine.main.tw15087427406127887449 : True := trivial
theorem Mine.main.tw13797323745857372409 : True := trivial
theorem Mine.main.tw15410482203810522393 : True := trivial
theorem Mine.main.tw16989488325979979065 : True := trivial
theorem Mine.main.tw3609762217373132089 : True := trivial
theorem Mine.main.tw10455743928339290457 : True := trivial
theorem Mine.main.tw4177236489201103193 : True := trivial
theorem Mine.main.tw15023316991559800185 : True := trivial
theorem Mine.main.tw5203219222101121401 : True := trivial
theorem Mine.main.tw962193829226610041 : True := trivial
theorem Mine.main.tw14793117695081215449 : True := trivial
theorem Mine.main.tw16046730324260685337 : True := trivial
theorem Mine.main.tw13110970153573199417 : True := trivial
theorem Mine.main.tw4924694640843408985 : True := trivial
theorem Mine.main.tw16798622893749714585 : True := trivial
theorem Mine.main.tw12741544251441588921 : True := trivial
theorem Mine.main.tw7943094425149488825 : True := trivial
theorem Mine.main.tw11487549891475536569 : True := trivial
theorem Mine.main.tw16452447596832230105 : True := trivial
theorem Mine.main.tw10390462408354793177 : True := trivial
theorem Mine.main.tw12346658559823942425 : True := trivial
theorem Mine.main.tw6334894449686545209 : True := trivial
theorem Mine.main.tw5396188567872606041 : True := trivial
theorem Mine.main.tw7019240024125815769 : True := trivial
theorem Mine.main.tw10474107093616326617 : True := trivial
theorem Mine.main.tw10044588960856096794 : True := trivial
theorem Mine.main.tw13914785722749861914 : True := trivial
theorem Mine.main.tw2724176850512262202 : True := trivial
theorem Mine.main.tw7173623326730630234 : True := trivial
theorem Mine.main.tw8952462522180670554 : True := trivial
theorem Mine.main.tw6241633126290130074 : True := trivial
theorem Mine.main.tw10999965473173681306 : True := trivial
theorem Mine.main.tw16187894506366716058 : True := trivial
theorem Mine.main.tw7639352225515584698 : True := trivial
theorem Mine.main.tw7647378279178456250 : True := trivial
theorem Mine.main.tw1255815211270559930 : True := trivial
theorem Mine.main.tw1545906260438175962 : True := trivial
theorem Mine.main.tw765107192605250810 : True := trivial
theorem Mine.main.tw12450111651097656602 : True := trivial
theorem Mine.main.tw5665735395497279834 : True := trivial
theorem Mine.main.tw7165207203227711834 : True := trivial
theorem Mine.main.tw656089360051881306 : True := trivial
theorem Mine.main.tw7590696779544312186 : True := trivial
theorem Mine.main.tw9498315638749924794 : True := trivial
theorem Mine.main.tw5995161000843957690 : True := trivial
theorem Mine.main.tw13219505800766818778 : True := trivial
theorem Mine.main.tw6655696309031964122 : True := trivial
theorem Mine.main.tw12646911602827044314 : True := trivial
theorem Mine.main.tw3934531018447913466 : True := trivial
theorem Mine.main.tw4839478117068044826 : True := trivial
theorem Mine.main.tw13427081119186488890 : True := trivial
theorem Mine.main.tw15062679425460387418 : True := trivial
theorem Mine.main.tw716429049611869786 : True := trivial
theorem Mine.main.tw17734603463515337306 : True := trivial
theorem Mine.main.tw66260789543402106 : True := trivial
theorem Mine.main.tw1118068078248606362 : True := trivial
theorem Mine.main.tw48596604365144762 : True := trivial
theorem Mine.main.tw1707505545463187130 : True := trivial
theorem Mine.main.tw14457758005677747962 : True := trivial
theorem Mine.main.tw9515011664573035354 : True := trivial
theorem Mine.main.tw13713940216889387898 : True := trivial
theorem Mine.main.tw16022572192331126682 : True := trivial
theorem Mine.main.tw10987386120367425466 : True := trivial
theorem Mine.main.tw13547569757486424058 : True := trivial
theorem Mine.main.tw13803360072150633466 : True := trivial
theorem Mine.main.tw16008457594558532635 : True := trivial
theorem Mine.main.tw15803610866087392283 : True := trivial
theorem Mine.main.tw12431561837914552411 : True := trivial
theorem Mine.main.tw6222487380544312443 : True := trivial
theorem Mine.main.tw15465920861327815835 : True := trivial
theorem Mine.main.tw5473700226181020891 : True := trivial
theorem Mine.main.tw4540862073306924251 : True := trivial
theorem Mine.main.tw2373237607127697691 : True := trivial
theorem Mine.main.tw2700663920422101307 : True := trivial
theorem Mine.main.tw9121559901702372667 : True := trivial
theorem Mine.main.tw3583811862363856187 : True := trivial
theorem Mine.main.tw2278972029675796859 : True := trivial
theorem Mine.main.tw6741292078354696603 : True := trivial
theorem Mine.main.tw11213863890663495067 : True := trivial
theorem Mine.main.tw17906638245316424091 : True := trivial
theorem Mine.main.tw18314829044154829275 : True := trivial
theorem Mine.main.tw2399826469436781019 : True := trivial
theorem Mine.main.tw16035907590883218939 : True := trivial
theorem Mine.main.tw7969568635172688411 : True := trivial
theorem Mine.main.tw8883465813499100731 : True := trivial
theorem Mine.main.tw3491332818749588091 : True := trivial
theorem Mine.main.tw1590763530083325563 : True := trivial
theorem Mine.main.tw7153082081811710619 : True := trivial
theorem Mine.main.tw10453263994017694363 : True := trivial
theorem Mine.main.tw15098031235356848795 : True := trivial
theorem Mine.main.tw11962923498438245051 : True := trivial
theorem Mine.main.tw8546124895413445307 : True := trivial
theorem Mine.main.tw10717781254789130011 : True := trivial
theorem Mine.main.tw6106196091520820027 : True := trivial
theorem Mine.main.tw1548279923187021627 : True := trivial
theorem Mine.main.tw17695171507069755227 : True := trivial
theorem Mine.main.tw13643209248901794683 : True := trivial
theorem Mine.main.tw10306443723286553467 : True := trivial
theorem Mine.main.tw5831584030425509755 : True := trivial
theorem Mine.main.tw10204856939554784155 : True := trivial
theorem Mine.main.tw1098248734344127483 : True := trivial
theorem Mine.main.tw9303439499767911484 : True := trivial
theorem Mine.main.tw4886955015573163100 : True := trivial
theorem Mine.main.tw9942282790977331292 : True := trivial
theorem Mine.main.tw12900284412222446716 : True := trivial
theorem Mine.main.tw16551855485269240956 : True := trivial
theorem Mine.main.tw16778611742570070204 : True := trivial
theorem Mine.main.tw3613476055612923068 : True := trivial
theorem Mine.main.tw4310270188432123100 : True := trivial
theorem Mine.main.tw5243159528196176124 : True := trivial
theorem Mine.main.tw13154001654789283132 : True := trivial
theorem Mine.main.tw11904941031934877020 : True := trivial
theorem Mine.main.tw6183352029847204284 : True := trivial
theorem Mine.main.tw1253437644075932092 : True := trivial
theorem Mine.main.tw8060562821785662972 : True := trivial
theorem Mine.main.tw2406621943657119228 : True := trivial
theorem Mine.main.tw16723884430069596700 : True := trivial
theorem Mine.main.tw11251407683458634364 : True := trivial
theorem Mine.main.tw17920292393507637884 : True := trivial
theorem Mine.main.tw302440914744352476 : True := trivial
theorem Mine.main.tw14080665800827857628 : True := trivial
theorem Mine.main.tw11548542833958708988 : True := trivial
theorem Mine.main.tw9155575984036265788 : True := trivial
theorem Mine.main.tw11349898740250378076 : True := trivial
theorem Mine.main.tw11273777480241942364 : True := trivial
theorem Mine.main.tw796168687070700412 : True := trivial
theorem Mine.main.tw14439473939278146460 : True := trivial
theorem Mine.main.tw5309058905264134205 : True := trivial
theorem Mine.main.tw9321267617633783869 : True := trivial
theorem Mine.main.tw14027531716089632829 : True := trivial
theorem Mine.main.tw4917070330192852093 : True := trivial
theorem Mine.main.tw4766233809647381661 : True := trivial
theorem Mine.main.tw3958507339218470045 : True := trivial
theorem Mine.main.tw6112859857366181021 : True := trivial
theorem Mine.main.tw12681957500809781501 : True := trivial
theorem Mine.main.tw11181722664286889309 : True := trivial
theorem Mine.main.tw9381277316556691805 : True := trivial
theorem Mine.main.tw9747897558166968733 : True := trivial
theorem Mine.main.tw2599750674813586877 : True := trivial
theorem Mine.main.tw9880953963774564861 : True := trivial
theorem Mine.main.tw3724484323120607773 : True := trivial
theorem Mine.main.tw16480584520131690045 : True := trivial
theorem Mine.main.tw9558744834307401277 : True := trivial
theorem Mine.main.tw3864431920445960829 : True := trivial
theorem Mine.main.tw16676564476587882173 : True := trivial
theorem Mine.main.tw12130321265151566525 : True := trivial
theorem Mine.main.tw16819838333489098493 : True := trivial
theorem Mine.main.tw5838101520590548733 : True := trivial
theorem Mine.main.tw1259162542039736189 : True := trivial
theorem Mine.main.tw12915833801598196605 : True := trivial
theorem Mine.main.tw15485851114877660061 : True := trivial
theorem Mine.main.tw11311155076762098589 : True := trivial
theorem Mine.main.tw10177057350305019805 : True := trivial
theorem Mine.main.tw14640416626631428029 : True := trivial
theorem Mine.main.tw3343439749351644125 : True := trivial
theorem Mine.main.tw9693634834776466397 : True := trivial
theorem Mine.main.tw6660377722381337597 : True := trivial
theorem Mine.main.tw1099256609624015869 : True := trivial
theorem Mine.main.tw14788915703135433725 : True := trivial
theorem Mine.main.tw1777545030009416734 : True := trivial
theorem Mine.main.tw8344989883159853150 : True := trivial
theorem Mine.main.tw18005423509665057918 : True := trivial
theorem Mine.main.tw3374421720907634814 : True := trivial
theorem Mine.main.tw7623511443260959870 : True := trivial
theorem Mine.main.tw6418098437765475518 : True := trivial
theorem Mine.main.tw4333880214566435006 : True := trivial
theorem Mine.main.tw18425317256667529438 : True := trivial
theorem Mine.main.tw14876790381607428382 : True := trivial
theorem Mine.main.tw11245646101168978206 : True := trivial
theorem Mine.main.tw15060185592220127646 : True := trivial
theorem Mine.main.tw18418235949754561950 : True := trivial
theorem Mine.main.tw12751799325998411230 : True := trivial
theorem Mine.main.tw4385281892830598654 : True := trivial
theorem Mine.main.tw17336282652733537790 : True := trivial
theorem Mine.main.tw17600866488970185278 : True := trivial
theorem Mine.main.tw13270728482189477470 : True := trivial
theorem Mine.main.tw2759098988195820126 : True := trivial
theorem Mine.main.tw10876375607700338302 : True := trivial
theorem Mine.main.tw15949526494057022110 : True := trivial
theorem Mine.main.tw12361340156312767134 : True := trivial
theorem Mine.main.tw12023146180999706270 : True := trivial
theorem Mine.main.tw8492455212021363390 : True := trivial
theorem Mine.main.tw8427638858588021438 : True := trivial
theorem Mine.main.tw12574995316784493246 : True := trivial
theorem Mine.main.tw5901322066177533662 : True := trivial
theorem Mine.main.tw17955931097060619006 : True := trivial
theorem Mine.main.tw12543713266681445118 : True := trivial
theorem Mine.main.tw5623159541915647742 : True := trivial
theorem Mine.main.tw11221353774195762014 : True := trivial
theorem Mine.main.tw8265370782698574782 : True := trivial
theorem Mine.main.tw4192827795001396158 : True := trivial
theorem Mine.main.tw8079908401900000222 : True := trivial
theorem Mine.main.tw3299218664060906527 : True := trivial
theorem Mine.main.tw15806524323241146399 : True := trivial
theorem Mine.main.tw6898400011967081535 : True := trivial
theorem Mine.main.tw11544348965984651327 : True := trivial
theorem Mine.main.tw16656740534632174751 : True := trivial
theorem Mine.main.tw5268168578311729375 : True := trivial
theorem Mine.main.tw2704602940660078815 : True := trivial
theorem Mine.main.tw3731879374237491455 : True := trivial
theorem Mine.main.tw7332330508316399935 : True := trivial
theorem Mine.main.tw7293298908176781663 : True := trivial
theorem Mine.main.tw13187166440333854079 : True := trivial
theorem Mine.main.tw2750411421705246143 : True := trivial
theorem Mine.main.tw14504180641510445567 : True := trivial
theorem Mine.main.tw17091655785135471103 : True := trivial
theorem Mine.main.tw18332899500509843999 : True := trivial
theorem Mine.main.tw495442525896006271 : True := trivial
theorem Mine.main.tw4126091431370883743 : True := trivial
theorem Mine.main.tw18287795668848337631 : True := trivial
theorem Mine.main.tw8989776476301544223 : True := trivial
theorem Mine.main.tw17057053908230417247 : True := trivial
theorem Mine.main.tw10231336680788121439 : True := trivial
theorem Mine.main.tw15491723280356408159 : True := trivial
theorem Mine.main.tw9360745474812902239 : True := trivial
theorem Mine.main.tw6162249291895867263 : True := trivial
theorem Mine.main.tw7883848961242879871 : True := trivial
theorem Mine.main.tw13355152605343272895 : True := trivial
theorem Mine.main.tw14672674291997333471 : True := trivial
theorem Mine.main.tw10210597933619972095 : True := trivial
theorem Mine.main.tw6505629793258536659 : True := trivial
theorem Mine.main : PySem.Challenge.rw_nt0121_01.Holds := by
  w_on
  o_law
  k_head
  (case hw => w_witness2)
  k_go0
  all_goals (try k_fold)
  rename_i K0 hD h₁ F N0
  rename_i KX X V GL T B TE TW w9 w8 M w7 w6 hcd ns hs hlay0 hL1 hr1 hl2 w4 w3 a vs w00 hL ra w1 r0 hI hr hcond hc'
  refine (Mine.entry (hs := ?hs) (Mine.tabOk ⟨by kernel_rfl, by kernel_rfl, by kernel_rfl, by kernel_rfl⟩ KX T.g T.b T.builtins T.nolimit) F (by rfl) hL hI (by omega) Mine.roomA fun h' tk' hk => ?fin).h
  case hs => rfl
  case fin => exact ⟨.inl ⟨.bool true, .bool true, [], rfl, fun _ => rfl, .bool true, Mine.postOk _, fun _ => ⟨.nil, fun a h => by cases h⟩⟩, hk, rfl, by assumption⟩
theorem PySem.Challenge.cw_nt0121_01_holds : PySem.Challenge.rw_nt0121_01.Holds :=
  Mine.main
