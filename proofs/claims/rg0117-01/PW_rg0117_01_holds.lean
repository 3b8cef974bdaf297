import PyProof.Rows.All
import Wide.All
import OpenK.AllK
import Wide.FinOn
import PySem.Challenge.RW_rg0117_01
set_option Elab.async false
set_option maxRecDepth 100000
set_option linter.unusedVariables false
set_option linter.unusedSimpArgs false
set_option linter.unusedSectionVars false

section
/-! The abstract side: values, store, own syntax, its compiler, the evaluator. -/
namespace Ab
open PySem

inductive V where
  | none
  | bool (b : Bool)
  | int (i : Int)
  | str (l : List Nat)
  | tup (vs : List V)
  | rng (a b c : Int)
  | ref (n : Nat)
  | obj (n c : Nat)
  | told
  | frz (l : List Int)
  deriving Inhabited

mutual
noncomputable def V.beq : V → V → Bool
  | .none, v => (match v with | .none => true | _ => false)
  | .bool a, v => (match v with | .bool b => a == b | _ => false)
  | .int a, v => (match v with | .int b => a == b | _ => false)
  | .str a, v => (match v with | .str b => a == b | _ => false)
  | .tup a, v => (match v with | .tup b => V.beqs a b | _ => false)
  | .rng a b c, v => (match v with | .rng a' b' c' => a == a' && b == b' && c == c' | _ => false)
  | .ref a, v => (match v with | .ref b => a == b | _ => false)
  | .obj a c, v => (match v with | .obj b d => a == b && c == d | _ => false)
  | .told, v => (match v with | .told => true | _ => false)
  | .frz a, v => (match v with | .frz b => a == b | _ => false)
noncomputable def V.beqs : List V → List V → Bool
  | [], l => (match l with | [] => true | _ :: _ => false)
  | a :: r, l => (match l with | b :: t => V.beq a b && V.beqs r t | [] => false)
end

inductive Cell where
  | list (vs : List V)
  | dictI (kvs : List (Int × V))
  | dictS (kvs : List (List Nat × V))
  | inst (fs : List (Nat × V))
  deriving Inhabited

noncomputable abbrev Store := List Cell
noncomputable abbrev Loc := Nat → Option V
noncomputable def upd (ρ : Loc) (x : Nat) (v : V) : Loc := fun y => if y = x then some v else ρ y

inductive Bi where
  | len | tuple | list | sum | sorted | range | int
  deriving DecidableEq
inductive Ty where
  | tuple | str | int | bool
  deriving DecidableEq

inductive PE where
  | dead
  | lit (v : V)
  | loc (x : Nat)
  | cel (x : Nat)
  | told
  | and (es : List PE)
  | or (es : List PE)
  | bin (op : Operator) (l r : PE)
  | not (e : PE)
  | neg (e : PE)
  | ite (t b o : PE)
  | dict (ks vs : List PE)
  | comp (x : Nat) (it : PE) (ifs : List PE) (e : PE)
  | cmp (op : CmpOp) (l r : PE)
  | cmp2 (o1 o2 : CmpOp) (l m r : PE)
  | call (f : Nat) (args : List PE)
  | new (c : Nat) (args : List PE)
  | bi (b : Bi) (args : List PE)
  | isi (e : PE) (t : Ty)
  | meth (o : PE) (m : Nat) (args : List PE)
  | attr (o : PE) (a : Nat)
  | from_ (v a : PE)
  | upto (v b : PE)
  | sub (v i : PE)
  | list (es : List PE)
  | tup (es : List PE)
  deriving Inhabited

inductive PS where
  | dead
  | assign (x : Nat) (e : PE)
  | unpack (xs : List Nat) (e : PE)
  | swap (xs : List Nat) (es : List PE)
  | setItem (o i e : PE)
  | setAttr (o : PE) (a : Nat) (e : PE)
  | expr (e : PE)
  | ret (e : PE)
  | ite (t : PE) (b o : List PS)
  | for_ (x : Nat) (it : PE) (body : List PS)
  | while_ (t : PE) (body : List PS)
  deriving Inhabited

structure Fn where
  params : List Nat
  body : List PS

/-! names -/
noncomputable def names : List Str := ["feed", "many", "at", "term", "kid", "way", "label", "sides", "n", "left", "right", "some", "m", "firsts", "lasts", "row", "rows", "last", "marks",
  "found", "places", "script", "first", "pair", "lap", "lines", "was", "due", "fresh", "cell", "thing", "waiting", "one", "kind", "parts", "wanted", "number", "self", "judge",
  "place", "paper", "path", "rules", "told", "append", "pop", "extend", "index", "want_row", "sides_of", "told_sides", "proved", "trimmed"].map Str.ofString
noncomputable def nm (x : Str) : Nat := names.idxOf x
noncomputable def known (x : Str) : Bool := names.contains x

/-- the defs: (class, name) -/
noncomputable def fnNames : List (Option Str × Str) := [(none, "_law_pick"), (none, "_law_weight"), (none, "_law_leaf"), (none, "_law_row"), (none, "_law_over"), (none, "_law_marked"), (none, "_law_anew"),
  (none, "is_plain_term"), (none, "has_form"), (none, "made_of"), (none, "remade"), (none, "numbered"), (none, "used_by"),
  (some "Judge", "__init__"), (some "Judge", "told_sides"), (some "Judge", "sides_of"),
  (some "Lines", "__init__"), (some "Lines", "want_row"), (some "Lines", "sides"), (some "Lines", "proved"), (some "Lines", "trimmed"), (none, "law")]
noncomputable def clsNames : List Str := ["Judge", "Lines"]
/-- class, method's name, its def -/
noncomputable def methods : List (Nat × Nat × Nat) := [(0, 50, 14), (0, 49, 15), (1, 48, 17), (1, 7, 18), (1, 51, 19), (1, 52, 20)]
noncomputable def inits : List Nat := [13, 16]
noncomputable def methOf (c m : Nat) : Option Nat := (methods.find? fun x => x.1 == c && x.2.1 == m).map (·.2.2)

noncomputable def okAttr (a : Str) : Bool := known a && !(methods.any fun m => m.2.1 == nm a)
noncomputable def biOf (f : Str) : Option Bi :=
  if f == "len" then some .len else if f == "tuple" then some .tuple else if f == "list" then some .list else if f == "sum" then some .sum
  else if f == "sorted" then some .sorted else if f == "range" then some .range else if f == "int" then some .int else none
noncomputable def tyOf (f : Str) : Option Ty := if f == "tuple" then some .tuple else if f == "str" then some .str else if f == "int" then some .int else if f == "bool" then some .bool else none
noncomputable def fnOf? (f : Str) : Option Nat := let i := fnNames.idxOf (none, f); if i < fnNames.length then some i else none
noncomputable def clsOf? (f : Str) : Option Nat := let i := clsNames.idxOf f; if i < clsNames.length then some i else none

noncomputable def isGlob (sc : Scope) (x : Str) : Bool := sc.names.lookup x == some .globalImplicit
noncomputable def isStarE : Expr → Bool
  | .Starred .. => true
  | _ => false

noncomputable def trC : Const → PE
  | .none => .lit .none
  | .bool b => .lit (.bool b)
  | .int i => .lit (.int i)
  | .str s => .lit (.str s.cps.toList)
  | _ => .dead
noncomputable def trName (sc : Scope) (x : Str) : PE :=
  if x == ("__debug__" : Str) || x == ("__classdict__" : Str) then .dead else
  match sc.names.lookup x with
  | some .local => if known x then .loc (nm x) else .dead
  | some .cell | some .free => if known x then .cel (nm x) else .dead
  | some .globalImplicit => if x == ("_law_told" : Str) then .told else .dead
  | _ => .dead

/-- a comprehension's scope that the compiler takes -/
noncomputable def compOk (sc s : Scope) (x : Str) : Bool :=
  s.kind == .function && known x && s.names.lookup x == some .local && s.names.all (fun y => y.2 != .cell && (y.2 != .local || y.1 == x || y.1 == (".0" : Str))) &&
  s.names.all (fun y => y.2 != .local || s.names.lookup y.1 == some .local) &&
  s.names.all (fun y => y.2 != .free || (sc.names.lookup y.1 == some .cell && s.names.lookup y.1 == some .free))

noncomputable def simpleBase : Expr → Bool
  | .Name .. => true
  | .Attribute (.Name ..) .. => true
  | _ => false

noncomputable def trE : Nat → Scope → Expr → PE
  | 0, _, _ => .dead
  | k + 1, sc, e => match e with
    | .Constant c _ _ => trC c
    | .Name x _ => trName sc x
    | .BoolOp .And es _ => .and (es.map (trE k sc))
    | .BoolOp .Or es _ => .or (es.map (trE k sc))
    | .BinOp l op r _ => .bin op (trE k sc l) (trE k sc r)
    | .UnaryOp .Not x _ => .not (trE k sc x)
    | .UnaryOp .USub x _ => .neg (trE k sc x)
    | .IfExp t b o _ => .ite (trE k sc t) (trE k sc b) (trE k sc o)
    | .Dict ks vs _ => if ks.all (·.isSome) && ks.length == vs.length && decide (ks.length ≤ 15) then .dict (ks.map fun x => match x with | some x => trE k sc x | none => .dead) (vs.map (trE k sc)) else .dead
    | .ListComp el [⟨.Name x _, it, ifs, 0⟩] s _ => if compOk sc s x then .comp (nm x) (trE k sc it) (ifs.map (trE k s)) (trE k s el) else .dead
    | .Compare l [op] [r] _ => if behindInMarks op r then .dead else .cmp op (trE k sc l) (trE k sc r)
    | .Compare l [o1, o2] [m, r] _ => if lastMarks [o1, o2] [m, r] then .dead else .cmp2 o1 o2 (trE k sc l) (trE k sc m) (trE k sc r)
    | .Call (.Name f _) args [] _ =>
      if !isGlob sc f || f == ("__debug__" : Str) || args.any isStarE || decide (30 < args.length) then .dead
      else if f == ("isinstance" : Str) then (match args with
        | [a, .Name t _] => if isGlob sc t then (match tyOf t with | some t => .isi (trE k sc a) t | none => .dead) else .dead
        | _ => .dead)
      else match biOf f, clsOf? f, fnOf? f with
        | some b, _, _ => .bi b (args.map (trE k sc))
        | none, some c, _ => .new c (args.map (trE k sc))
        | none, none, some i => .call i (args.map (trE k sc))
        | none, none, none => .dead
    | .Call (.Attribute o m ap) args [] p =>
      if simpleBase o && known m && ap.endLine == p.line && !args.any isStarE && decide (args.length < 29) then .meth (trE k sc o) (nm m) (args.map (trE k sc)) else .dead
    | .Attribute o a _ => if simpleBase o && okAttr a then .attr (trE k sc o) (nm a) else .dead
    | .Subscript v (.Slice (some a) none none _) _ => .from_ (trE k sc v) (trE k sc a)
    | .Subscript v (.Slice none (some b) none _) _ => .upto (trE k sc v) (trE k sc b)
    | .Subscript v i _ => (match i with | .Slice .. => .dead | _ => .sub (trE k sc v) (trE k sc i))
    | .List es _ => if es.any isStarE || decide (30 < es.length) then .dead else .list (es.map (trE k sc))
    | .Tuple es _ _ => if es.any isStarE || decide (30 < es.length) then .dead else .tup (es.map (trE k sc))
    | _ => .dead

noncomputable def isStoreName (sc : Scope) (x : Str) : Bool := known x && (sc.names.lookup x == some .local || sc.names.lookup x == some .cell)
noncomputable def targetNames (sc : Scope) : List Expr → Option (List Str)
  | [] => some []
  | .Name x _ :: r => if isStoreName sc x then (targetNames sc r).map (x :: ·) else none
  | _ => none
noncomputable def isCompE : Expr → Bool
  | .ListComp .. | .SetComp .. | .DictComp .. => true
  | _ => false

noncomputable def trS : Nat → Scope → Stmt → PS
  | 0, _, _ => .dead
  | k + 1, sc, st => match st with
    | .Return (some e) _ => .ret (trE 60 sc e)
    | .Expr e _ => if isCompE e then .dead else .expr (trE 60 sc e)
    | .Assign [.Name x _] e _ => if isStoreName sc x then .assign (nm x) (trE 60 sc e) else .dead
    | .Assign [.Tuple ts _ _] e _ => (match targetNames sc ts with
      | some xs => if xs.Nodup then (match e with
          | .Tuple es _ _ => if es.length == xs.length && decide (es.length ≤ 30) && !es.any isStarE && !es.all (constantsAlone 8) then .swap (xs.map nm) (es.map (trE 60 sc)) else .dead
          | _ => if isCompE e then .dead else .unpack (xs.map nm) (trE 60 sc e)) else .dead
      | none => .dead)
    | .Assign [.Subscript o i _] e _ => (match i with
      | .Slice .. => .dead
      | _ => if isCompE e then .dead else .setItem (trE 60 sc o) (trE 60 sc i) (trE 60 sc e))
    | .Assign [.Attribute o a _] e _ => if okAttr a && !isCompE e then .setAttr (trE 60 sc o) (nm a) (trE 60 sc e) else .dead
    | .If t b o _ => .ite (trE 60 sc t) (b.map (trS k sc)) (o.map (trS k sc))
    | .For (.Name x _) it b [] _ => if isStoreName sc x then (match it with | .Set .. => .dead | _ => .for_ (nm x) (trE 60 sc it) (b.map (trS k sc))) else .dead
    | .While t b [] _ => .while_ (trE 60 sc t) (b.map (trS k sc))
    | _ => .dead

/-! the defs -/
noncomputable def findDef (n : Str) : List Stmt → Option (Arguments × List Stmt × Scope)
  | [] => none
  | .FunctionDef m a b _ _ _ sc _ _ _ :: r => if m == n then some (a, b, sc) else findDef n r
  | _ :: r => findDef n r
noncomputable def findCls (n : Str) : List Stmt → List Stmt
  | [] => []
  | .ClassDef m _ _ b _ _ _ _ _ _ _ :: r => if m == n then b else findCls n r
  | _ :: r => findCls n r
noncomputable def decl (i : Nat) : Option (Arguments × List Stmt × Scope) := match fnNames[i]? with
  | some (none, n) => findDef n PySem.Challenge.pw_rg0117_01.main.body
  | some (some c, n) => findDef n (findCls c PySem.Challenge.pw_rg0117_01.main.body)
  | none => none
noncomputable def fnOf (d : Arguments × List Stmt × Scope) : Fn := ⟨d.1.args.map fun a => nm a.arg, d.2.1.map (trS 20 d.2.2)⟩
noncomputable def FT (i : Nat) : Option Fn := (decl i).map fnOf

/-! the told table: label, its two terms -/
noncomputable def toldTab : List (List Nat × V) := [([116], .tup [.tup [.str [97]], .tup [.str [98]]]), ([117], .tup [.tup [.str [98]], .tup [.str [103], .tup [.str [97]]]])]

/-! operations -/
noncomputable def big : Nat := 4096
mutual
/-- intsV, strs, tuples of such, to a depth, of a size -/
noncomputable def V.pure : Nat → V → Bool
  | _, .int _ => true
  | _, .str l => decide (l.length ≤ big) && l.all fun c => decide (c < 55296)
  | n, .tup vs => (match n with | 0 => false | n + 1 => decide (vs.length ≤ big) && V.pures n vs)
  | _, .none => false
  | _, .bool _ => false
  | _, .rng _ _ _ => false
  | _, .ref _ => false
  | _, .obj _ _ => false
  | _, .told => false
  | _, .frz _ => false
noncomputable def V.pures : Nat → List V → Bool
  | _, [] => true
  | n, v :: r => V.pure n v && V.pures n r
end
noncomputable def truthy : V → Option Bool
  | .bool b => some b
  | _ => none
noncomputable def allInts : List V → Option (List Int)
  | [] => some []
  | .int i :: r => (allInts r).map (i :: ·)
  | _ => none
noncomputable def eqV (σ : Store) (a b : V) : Option Bool := match a, b with
  | .ref i, .ref j => (match σ[i]?, σ[j]? with
    | some (.list vs), some (.list ws) => if V.pures 40 vs && V.pures 40 ws && decide (vs.length ≤ big) && decide (ws.length ≤ big) then some (V.beqs vs ws) else none
    | _, _ => none)
  | _, _ => if V.pure 40 a && V.pure 40 b then some (V.beq a b) else none
noncomputable def lookI (k : Int) : List (Int × V) → Option V
  | [] => none
  | (a, v) :: r => if a = k then some v else lookI k r
noncomputable def lookS (k : List Nat) : List (List Nat × V) → Option V
  | [] => none
  | (a, v) :: r => if a = k then some v else lookS k r
noncomputable def putI (k : Int) (v : V) : List (Int × V) → List (Int × V)
  | [] => [(k, v)]
  | (a, w) :: r => if a = k then (a, v) :: r else (a, w) :: putI k v r
noncomputable def putS (k : List Nat) (v : V) : List (List Nat × V) → List (List Nat × V)
  | [] => [(k, v)]
  | (a, w) :: r => if a = k then (a, v) :: r else (a, w) :: putS k v r
noncomputable def inV (σ : Store) (x c : V) : Option Bool := match c with
  | .tup vs => if V.pure 0 x && V.pures 0 vs && decide (vs.length ≤ big) then some (vs.any fun y => V.beq y x) else none
  | .told => (match x with | .str l => some (lookS l toldTab).isSome | _ => none)
  | .ref i => (match σ[i]?, x with
    | some (.dictI kvs), .int k => some (lookI k kvs).isSome
    | _, _ => none)
  | _ => none
noncomputable def cmpOp (σ : Store) (op : CmpOp) (a b : V) : Option V := match op with
  | .Eq => (eqV σ a b).map .bool
  | .NotEq => (eqV σ a b).map fun t => .bool (!t)
  | .In => (inV σ a b).map .bool
  | .NotIn => (inV σ a b).map fun t => .bool (!t)
  | .Lt => (match a, b with | .int x, .int y => some (.bool (decide (x < y))) | _, _ => none)
  | .LtE => (match a, b with | .int x, .int y => some (.bool (decide (x ≤ y))) | _, _ => none)
  | .Gt => (match a, b with | .int x, .int y => some (.bool (decide (y < x))) | _, _ => none)
  | _ => none
noncomputable def small (x : Int) : Bool := decide (x.natAbs < 2 ^ 40)
noncomputable def binOp (op : Operator) (a b : V) : Option V := match a, b with
  | .int x, .int y => (match op with
    | .Add => some (.int (x + y))
    | .Sub => some (.int (x - y))
    | .Mult => if small x && small y then some (.int (x * y)) else none
    | .FloorDiv => if 0 < y && small x && decide (y < 1000) then some (.int (Int.fdiv x y)) else none
    | .Mod => if 0 < y then some (.int (Int.fmod x y)) else none
    | _ => none)
  | .tup vs, .tup ws => (match op with
    | .Add => if vs.isEmpty || ws.isEmpty || decide (big < vs.length + ws.length) then none else some (.tup (vs ++ ws))
    | _ => none)
  | _, _ => none
noncomputable def seqAt (vs : List V) (k : Int) : Option V := if 0 ≤ k then vs[k.toNat]? else none
noncomputable def subOp (σ : Store) (o i : V) : Option V := match o, i with
  | .tup vs, .int k => if vs.length ≤ big then seqAt vs k else none
  | .str l, .int k => if 0 ≤ k ∧ l.length ≤ big then (l[k.toNat]?).map fun c => .str [c] else none
  | .told, .str l => lookS l toldTab
  | .ref n, .int k => (match σ[n]? with
    | some (.list vs) => if vs.length ≤ big then (if k = -1 then vs.getLast? else seqAt vs k) else none
    | some (.dictI kvs) => lookI k kvs
    | _ => none)
  | .ref n, .str l => (match σ[n]? with
    | some (.dictS kvs) => lookS l kvs
    | _ => none)
  | _, _ => none
noncomputable def fromOp (o a : V) : Option V := match o, a with
  | .tup vs, .int k => if 1 ≤ k ∧ k.toNat ≤ vs.length ∧ vs.length ≤ big then some (.tup (vs.drop k.toNat)) else none
  | _, _ => none
/-- v[:b]: a tuple's or a str's head, or a new list -/
noncomputable def uptoOp (σ : Store) (o b : V) : Option (V × Store) := match o, b with
  | .tup vs, .int k => if 1 ≤ k ∧ k.toNat < vs.length ∧ vs.length ≤ big then some (.tup (vs.take k.toNat), σ) else none
  | .str l, .int k => if k = 1 ∧ l.length ≤ big then some (.str (l.take 1), σ) else none
  | .ref n, .int k => (match σ[n]? with
    | some (.list vs) => if 0 ≤ k ∧ vs.length ≤ big then some (.ref σ.length, σ ++ [.list (vs.take k.toNat)]) else none
    | _ => none)
  | .frz l, .int k => if 0 ≤ k ∧ l.length ≤ big then some (.ref σ.length, σ ++ [.list ((l.map V.int).take k.toNat)]) else none
  | _, _ => none
noncomputable def isiOp (v : V) (t : Ty) : Option Bool := match v, t with
  | .tup _, .tuple => some true
  | .tup _, _ => some false
  | .str _, .str => some true
  | .str _, _ => some false
  | .int _, .int => some true
  | .int _, _ => some false
  | _, _ => none
noncomputable def rngLen (a b c : Int) : Nat := if c = 1 then (b - a).toNat else (a - b).toNat
noncomputable def rngItems (a b c : Int) : List V := (List.range (rngLen a b c)).map fun (i : Nat) => V.int (a + (i : Int) * c)
/-- the k-th thing that an iteration over v hands out; none in none: it is over -/
noncomputable def itemAt (σ : Store) (v : V) (k : Nat) : Option (Option V) := match v with
  | .tup vs => if vs.length ≤ big then some vs[k]? else none
  | .rng a b c => if (decide (c = 1) || decide (c = -1)) && small a && small b then some (if k < rngLen a b c then some (.int (a + (k : Int) * c)) else none) else none
  | .ref n => (match σ[n]? with | some (.list vs) => if vs.length ≤ big then some vs[k]? else none | _ => none)
  | _ => none
noncomputable def insertI (x : Int) : List Int → List Int
  | [] => [x]
  | y :: r => if x ≤ y then x :: y :: r else y :: insertI x r
noncomputable def sortI : List Int → List Int
  | [] => []
  | x :: r => insertI x (sortI r)
noncomputable def biOp (σ : Store) (b : Bi) (args : List V) : Option (V × Store) := match b, args with
  | .len, [.tup vs] => if vs.length ≤ big then some (.int vs.length, σ) else none
  | .len, [.ref n] => (match σ[n]? with | some (.list vs) => if vs.length ≤ big then some (.int vs.length, σ) else none | _ => none)
  | .tuple, [.ref n] => (match σ[n]? with | some (.list vs) => if vs.length ≤ big then some (.tup vs, σ) else none | _ => none)
  | .list, [.ref n] => (match σ[n]? with | some (.list vs) => if vs.length ≤ big then some (.ref σ.length, σ ++ [.list vs]) else none | _ => none)
  | .list, [.tup vs] => if vs.length ≤ big then some (.ref σ.length, σ ++ [.list vs]) else none
  | .list, [.rng a b c] => if decide (c = 1) && small a && small b && decide (rngLen a b c ≤ big) then some (.ref σ.length, σ ++ [.list (rngItems a b c)]) else none
  | .sum, [.ref n] => (match σ[n]? with | some (.list vs) => if vs.length ≤ big then (allInts vs).map fun l => (.int l.sum, σ) else none | _ => none)
  | .sorted, [.ref n] => (match σ[n]? with
    | some (.dictI kvs) => if kvs.length < 60 then some (.ref σ.length, σ ++ [.list ((sortI (kvs.map (·.1))).map .int)]) else none
    | _ => none)
  | .range, [.int b] => if small b then some (.rng 0 b 1, σ) else none
  | .range, [.int a, .int b, .int c] => if small a && small b && (decide (c = 1) || decide (c = -1)) then some (.rng a b c, σ) else none
  | .int, [.int i] => some (.int i, σ)
  | _, _ => none
noncomputable def lookA (k : Nat) : List (Nat × V) → Option V
  | [] => none
  | (a, v) :: r => if a = k then some v else lookA k r
noncomputable def putA (k : Nat) (v : V) : List (Nat × V) → List (Nat × V)
  | [] => [(k, v)]
  | (a, w) :: r => if a = k then (a, v) :: r else (a, w) :: putA k v r
noncomputable def attrOp (σ : Store) (o : V) (a : Nat) : Option V := match o with
  | .obj n c => if c < 2 then (match σ[n]? with | some (.inst fs) => lookA a fs | _ => none) else none
  | _ => none
/-- a built-in list's method -/
noncomputable def listOp (σ : Store) (n : Nat) (vs : List V) (m : Nat) (args : List V) : Option (V × Store) :=
  if big < vs.length then none
  else if m = 44 then (match args with | [x] => some (.none, σ.set n (.list (vs ++ [x]))) | _ => none)
  else if m = 45 then (match args with | [] => (match vs.getLast? with | some x => some (x, σ.set n (.list vs.dropLast)) | none => none) | _ => none)
  else if m = 46 then (match args with | [.tup ws] => if ws.length ≤ big then some (.none, σ.set n (.list (vs ++ ws))) else none | _ => none)
  else if m = 47 then (match args with | [.int k] => (match allInts vs with | some l => if k ∈ l then some (.int (l.idxOf k), σ) else none | none => none) | _ => none)
  else none
noncomputable def setItemOp (σ : Store) (o i v : V) : Option Store := match o, i with
  | .ref n, .int k => (match σ[n]? with
    | some (.list vs) => if 0 ≤ k ∧ k.toNat < vs.length ∧ vs.length ≤ big then some (σ.set n (.list (vs.set k.toNat v))) else none
    | some (.dictI kvs) => if kvs.length ≤ big then some (σ.set n (.dictI (putI k v kvs))) else none
    | _ => none)
  | .ref n, .str l => (match σ[n]? with
    | some (.dictS kvs) => if kvs.length ≤ big then some (σ.set n (.dictS (putS l v kvs))) else none
    | _ => none)
  | _, _ => none
noncomputable def setAttrOp (σ : Store) (o : V) (a : Nat) (v : V) : Option Store := match o with
  | .obj n c => if c < 2 then (match σ[n]? with | some (.inst fs) => if fs.length ≤ 20 then some (σ.set n (.inst (putA a v fs))) else none | _ => none) else none
  | _ => none
noncomputable def mkDict : List V → List V → Option Cell
  | [], [] => some (.dictI [])
  | [.int k], [v] => some (.dictI [(k, v)])
  | [.str a], [v] => some (.dictS [(a, v)])
  | [.str a, .str b], [v, w] => some (.dictS (putS b w [(a, v)]))
  | _, _ => none

/-! the evaluator -/
inductive Fl where
  | next
  | ret (v : V)

noncomputable def evs (f : PE → Store → Option (V × Store)) : List PE → Store → Option (List V × Store)
  | [], σ => some ([], σ)
  | e :: r, σ => match f e σ with
    | some (v, σ) => (match evs f r σ with
      | some (vs, σ) => some (v :: vs, σ)
      | none => none)
    | none => none
/-- keys and values by turns -/
noncomputable def evKV (f : PE → Store → Option (V × Store)) : List PE → List PE → Store → Option (List V × List V × Store)
  | [], [], σ => some ([], [], σ)
  | k :: ks, v :: vs, σ => match f k σ with
    | some (a, σ) => (match f v σ with
      | some (b, σ) => (match evKV f ks vs σ with
        | some (as, bs, σ) => some (a :: as, b :: bs, σ)
        | none => none)
      | none => none)
    | none => none
  | _, _, _ => none
noncomputable def evAnd (f : PE → Store → Option (V × Store)) : List PE → Store → Option (V × Store)
  | [], _ => none
  | [e], σ => f e σ
  | e :: r, σ => match f e σ with
    | some (v, σ) => (match truthy v with
      | some true => evAnd f r σ
      | some false => some (v, σ)
      | none => none)
    | none => none
noncomputable def evOr (f : PE → Store → Option (V × Store)) : List PE → Store → Option (V × Store)
  | [], _ => none
  | [e], σ => f e σ
  | e :: r, σ => match f e σ with
    | some (v, σ) => (match truthy v with
      | some false => evOr f r σ
      | some true => some (v, σ)
      | none => none)
    | none => none
/-- the tests of a comprehension, from the left -/
noncomputable def evIfs (f : PE → Store → Option (V × Store)) : List PE → Store → Option (Bool × Store)
  | [], σ => some (true, σ)
  | e :: r, σ => match f e σ with
    | some (v, σ) => (match truthy v with
      | some true => evIfs f r σ
      | some false => some (false, σ)
      | none => none)
    | none => none
noncomputable def laps : Nat := 70
/-- one thing of a comprehension: none: left out -/
noncomputable def compLoop (src : V) (one : V → Store → Option (Option V × Store)) : Nat → Nat → List V → Store → Option (List V × Store)
  | 0, _, _, _ => none
  | t + 1, k, acc, σ => match itemAt σ src k with
    | some (some v) => (match one v σ with
      | some (some w, σ) => compLoop src one t (k + 1) (acc ++ [w]) σ
      | some (none, σ) => compLoop src one t (k + 1) acc σ
      | none => none)
    | some none => some (acc, σ)
    | none => none
noncomputable def forLoop (src : V) (one : V → Loc → Store → Option (Fl × Loc × Store)) : Nat → Nat → Loc → Store → Option (Fl × Loc × Store)
  | 0, _, _, _ => none
  | t + 1, k, ρ, σ => match itemAt σ src k with
    | some (some v) => (match one v ρ σ with
      | some (.next, ρ, σ) => forLoop src one t (k + 1) ρ σ
      | some (.ret r, ρ, σ) => some (.ret r, ρ, σ)
      | none => none)
    | some none => some (.next, ρ, σ)
    | none => none
noncomputable def whileLoop (test : Loc → Store → Option (Bool × Store)) (one : Loc → Store → Option (Fl × Loc × Store)) : Nat → Loc → Store → Option (Fl × Loc × Store)
  | 0, _, _ => none
  | t + 1, ρ, σ => match test ρ σ with
    | some (true, σ) => (match one ρ σ with
      | some (.next, ρ, σ) => whileLoop test one t ρ σ
      | some (.ret r, ρ, σ) => some (.ret r, ρ, σ)
      | none => none)
    | some (false, σ) => some (.next, ρ, σ)
    | none => none
noncomputable def execs (f : PS → Loc → Store → Option (Fl × Loc × Store)) : List PS → Loc → Store → Option (Fl × Loc × Store)
  | [], ρ, σ => some (.next, ρ, σ)
  | s :: r, ρ, σ => match f s ρ σ with
    | some (.next, ρ, σ) => execs f r ρ σ
    | some (.ret v, ρ, σ) => some (.ret v, ρ, σ)
    | none => none
noncomputable def bindAll : List Nat → List V → Loc → Loc
  | x :: xs, v :: vs, ρ => bindAll xs vs (upd ρ x v)
  | _, _, ρ => ρ

noncomputable def one? {α β : Type} (x : Option α) (f : α → Option β) : Option β := match x with | some a => f a | none => none

mutual
noncomputable def ev : Nat → PE → Loc → Store → Option (V × Store)
  | 0, _, _, _ => none
  | n + 1, e, ρ, σ => match e with
    | .dead => none
    | .lit v => some (v, σ)
    | .loc x => (ρ x).map (·, σ)
    | .cel x => (ρ x).map (·, σ)
    | .told => some (.told, σ)
    | .and es => evAnd (fun e σ => ev n e ρ σ) es σ
    | .or es => evOr (fun e σ => ev n e ρ σ) es σ
    | .bin op l r => one? (ev n l ρ σ) fun (a, σ) => one? (ev n r ρ σ) fun (b, σ) => (binOp op a b).map (·, σ)
    | .not x => one? (ev n x ρ σ) fun (a, σ) => (truthy a).map fun t => (.bool (!t), σ)
    | .neg x => one? (ev n x ρ σ) fun (a, σ) => (match a with | .int i => some (.int (-i), σ) | _ => none)
    | .ite t b o => one? (ev n t ρ σ) fun (a, σ) => one? (truthy a) fun t => if t then ev n b ρ σ else ev n o ρ σ
    | .dict ks vs => one? (evKV (fun e σ => ev n e ρ σ) ks vs σ) fun (as, bs, σ) => (mkDict as bs).map fun c => (.ref σ.length, σ ++ [c])
    | .comp x it ifs el => one? (ev n it ρ σ) fun (src, σ) =>
        one? (compLoop src (fun v σ => one? (evIfs (fun e σ => ev n e (upd ρ x v) σ) ifs σ) fun (ok, σ) =>
          if ok then (ev n el (upd ρ x v) σ).map fun (w, σ) => (some w, σ) else some (none, σ)) laps 0 [] σ) fun (vs, σ) => some (.ref σ.length, σ ++ [.list vs])
    | .cmp op l r => one? (ev n l ρ σ) fun (a, σ) => one? (ev n r ρ σ) fun (b, σ) => (cmpOp σ op a b).map (·, σ)
    | .cmp2 o1 o2 l m r => one? (ev n l ρ σ) fun (a, σ) => one? (ev n m ρ σ) fun (b, σ) => one? (cmpOp σ o1 a b) fun c => one? (truthy c) fun t =>
        if t then one? (ev n r ρ σ) fun (d, σ) => (cmpOp σ o2 b d).map (·, σ) else some (c, σ)
    | .call f args => one? (evs (fun e σ => ev n e ρ σ) args σ) fun (vs, σ) => callF n f vs σ
    | .new c args => one? (evs (fun e σ => ev n e ρ σ) args σ) fun (vs, σ) => one? inits[c]? fun f =>
        one? (callF n f (.obj σ.length c :: vs) (σ ++ [.inst []])) fun (r, σ') => (match r with | .none => some (.obj σ.length c, σ') | _ => none)
    | .bi b args => one? (evs (fun e σ => ev n e ρ σ) args σ) fun (vs, σ) => biOp σ b vs
    | .isi x t => one? (ev n x ρ σ) fun (a, σ) => (isiOp a t).map fun r => (.bool r, σ)
    | .meth o m args => one? (ev n o ρ σ) fun (a, σ1) => one? (evs (fun e σ => ev n e ρ σ) args σ1) fun (vs, σ2) => (match a with
        | .ref k => (match σ1[k]?, σ2[k]? with | some (.list _), some (.list ws) => listOp σ2 k ws m vs | _, _ => none)
        | .obj k c => (match σ1[k]? with | some (.inst fs) => if (lookA m fs).isNone && decide (c < 2) then one? (methOf c m) fun f => callF n f (.obj k c :: vs) σ2 else none | _ => none)
        | _ => none)
    | .attr o a => one? (ev n o ρ σ) fun (v, σ) => (attrOp σ v a).map (·, σ)
    | .from_ v a => one? (ev n v ρ σ) fun (x, σ) => one? (ev n a ρ σ) fun (y, σ) => (fromOp x y).map (·, σ)
    | .upto v b => one? (ev n v ρ σ) fun (x, σ) => one? (ev n b ρ σ) fun (y, σ) => uptoOp σ x y
    | .sub v i => one? (ev n v ρ σ) fun (x, σ) => one? (ev n i ρ σ) fun (y, σ) => (subOp σ x y).map (·, σ)
    | .list es => one? (evs (fun e σ => ev n e ρ σ) es σ) fun (vs, σ) => some (.ref σ.length, σ ++ [.list vs])
    | .tup es => one? (evs (fun e σ => ev n e ρ σ) es σ) fun (vs, σ) => some (.tup vs, σ)

noncomputable def exec : Nat → PS → Loc → Store → Option (Fl × Loc × Store)
  | 0, _, _, _ => none
  | n + 1, s, ρ, σ => match s with
    | .dead => none
    | .assign x e => one? (ev n e ρ σ) fun (v, σ) => some (.next, upd ρ x v, σ)
    | .unpack xs e => one? (ev n e ρ σ) fun (v, σ) => (match v with
        | .tup vs => if vs.length = xs.length then some (.next, bindAll xs vs ρ, σ) else none
        | _ => none)
    | .swap xs es => one? (evs (fun e σ => ev n e ρ σ) es σ) fun (vs, σ) => some (.next, bindAll xs vs ρ, σ)
    | .setItem o i e => one? (ev n e ρ σ) fun (v, σ) => one? (ev n o ρ σ) fun (a, σ) => one? (ev n i ρ σ) fun (b, σ) => (setItemOp σ a b v).map (.next, ρ, ·)
    | .setAttr o at_ e => one? (ev n e ρ σ) fun (v, σ) => one? (ev n o ρ σ) fun (a, σ) => (setAttrOp σ a at_ v).map (.next, ρ, ·)
    | .expr e => one? (ev n e ρ σ) fun (_, σ) => some (.next, ρ, σ)
    | .ret e => one? (ev n e ρ σ) fun (v, σ) => some (.ret v, ρ, σ)
    | .ite t b o => one? (ev n t ρ σ) fun (a, σ) => one? (truthy a) fun t => if t then execs (exec n) b ρ σ else execs (exec n) o ρ σ
    | .for_ x it b => one? (ev n it ρ σ) fun (src, σ) => forLoop src (fun v ρ σ => execs (exec n) b (upd ρ x v) σ) laps 0 ρ σ
    | .while_ t b => whileLoop (fun ρ σ => one? (ev n t ρ σ) fun (a, σ) => (truthy a).map (·, σ)) (execs (exec n) b) laps ρ σ

noncomputable def callF : Nat → Nat → List V → Store → Option (V × Store)
  | 0, _, _, _ => none
  | n + 1, f, vs, σ => one? (FT f) fun fn => if fn.params.length = vs.length then
      one? (execs (exec n) fn.body (bindAll fn.params vs fun _ => none) σ) fun (fl, _, σ) => (match fl with | .ret v => some (v, σ) | .next => some (.none, σ))
    else none
end

noncomputable def runLaw (xs : List Int) : Option V := (callF 60 21 [.ref 0] [.list (xs.map .int)]).map (·.1)
end Ab

end
section
set_option maxRecDepth 100000
namespace Ab
open PySem

theorem nn {α : Type} {a : α} (h : none = some a) : False := by cases h
/-! the shapes that the compiler takes -/
noncomputable def trCN (k : Nat) (sc : Scope) (f : Str) (args : List Expr) : PE :=
  if f == ("isinstance" : Str) then (match args with
        | [a, .Name t _] => if isGlob sc t then (match tyOf t with | some t => .isi (trE k sc a) t | none => .dead) else .dead
        | _ => .dead)
      else match biOf f, clsOf? f, fnOf? f with
        | some b, _, _ => .bi b (args.map (trE k sc))
        | none, some c, _ => .new c (args.map (trE k sc))
        | none, none, some i => .call i (args.map (trE k sc))
        | none, none, none => .dead

inductive ShE (k : Nat) (sc : Scope) : Expr → PE → Prop
  | dead (e : Expr) : ShE k sc e .dead
  | const (c : Const) (a p) : ShE k sc (.Constant c a p) (trC c)
  | name (x : Str) (p) : ShE k sc (.Name x p) (trName sc x)
  | and (es : List Expr) (p) : ShE k sc (.BoolOp .And es p) (.and (es.map (trE k sc)))
  | or (es : List Expr) (p) : ShE k sc (.BoolOp .Or es p) (.or (es.map (trE k sc)))
  | bin (l : Expr) (op : Operator) (r : Expr) (p) : ShE k sc (.BinOp l op r p) (.bin op (trE k sc l) (trE k sc r))
  | not (x : Expr) (p) : ShE k sc (.UnaryOp .Not x p) (.not (trE k sc x))
  | neg (x : Expr) (p) : ShE k sc (.UnaryOp .USub x p) (.neg (trE k sc x))
  | ite (t b o : Expr) (p) : ShE k sc (.IfExp t b o p) (.ite (trE k sc t) (trE k sc b) (trE k sc o))
  | dict (ks : List (Option Expr)) (vs : List Expr) (p) (h : (ks.all (·.isSome) && ks.length == vs.length && decide (ks.length ≤ 15)) = true) :
      ShE k sc (.Dict ks vs p) (.dict (ks.map fun x => match x with | some x => trE k sc x | none => .dead) (vs.map (trE k sc)))
  | comp (el : Expr) (x : Str) (px) (it : Expr) (ifs : List Expr) (s : Scope) (p) (h : compOk sc s x = true) : ShE k sc (.ListComp el [⟨.Name x px, it, ifs, 0⟩] s p) (.comp (nm x) (trE k sc it) (ifs.map (trE k s)) (trE k s el))
  | cmp (l : Expr) (op : CmpOp) (r : Expr) (p) (h : ¬ behindInMarks op r = true) : ShE k sc (.Compare l [op] [r] p) (.cmp op (trE k sc l) (trE k sc r))
  | cmp2 (l : Expr) (o1 o2 : CmpOp) (m r : Expr) (p) (h : ¬ lastMarks [o1, o2] [m, r] = true) : ShE k sc (.Compare l [o1, o2] [m, r] p) (.cmp2 o1 o2 (trE k sc l) (trE k sc m) (trE k sc r))
  | callN (f : Str) (fp) (args : List Expr) (p) (h : ¬ (!isGlob sc f || f == ("__debug__" : Str) || args.any isStarE || decide (30 < args.length)) = true) : ShE k sc (.Call (.Name f fp) args [] p)
      (trCN k sc f args)
  | meth (o : Expr) (m : Str) (ap : Pos) (args : List Expr) (p : Pos) (h : (simpleBase o && known m && ap.endLine == p.line && !args.any isStarE && decide (args.length < 29)) = true) :
      ShE k sc (.Call (.Attribute o m ap) args [] p) (.meth (trE k sc o) (nm m) (args.map (trE k sc)))
  | attr (o : Expr) (a : Str) (p) (h : (simpleBase o && okAttr a) = true) : ShE k sc (.Attribute o a p) (.attr (trE k sc o) (nm a))
  | from_ (v a : Expr) (p q) : ShE k sc (.Subscript v (.Slice (some a) none none p) q) (.from_ (trE k sc v) (trE k sc a))
  | upto (v b : Expr) (p q) : ShE k sc (.Subscript v (.Slice none (some b) none p) q) (.upto (trE k sc v) (trE k sc b))
  | sub (v i : Expr) (q) (h : ∀ l u st p, i ≠ .Slice l u st p) : ShE k sc (.Subscript v i q) (.sub (trE k sc v) (trE k sc i))
  | list (es : List Expr) (p) (h : ¬ (es.any isStarE || decide (30 < es.length)) = true) : ShE k sc (.List es p) (.list (es.map (trE k sc)))
  | tup (es : List Expr) (a p) (h : ¬ (es.any isStarE || decide (30 < es.length)) = true) : ShE k sc (.Tuple es a p) (.tup (es.map (trE k sc)))

theorem ShE.yes {k : Nat} {sc : Scope} {e : Expr} {a : PE} {c : Prop} [Decidable c] (h : c → ShE k sc e a) : ShE k sc e (if c then a else .dead) := by
  by_cases hc : c
  · rw [if_pos hc]; exact h hc
  · rw [if_neg hc]; exact .dead _
theorem ShE.no {k : Nat} {sc : Scope} {e : Expr} {a : PE} {c : Prop} [Decidable c] (h : ¬ c → ShE k sc e a) : ShE k sc e (if c then .dead else a) := by
  by_cases hc : c
  · rw [if_pos hc]; exact .dead _
  · rw [if_neg hc]; exact h hc
theorem trE_sh (k : Nat) (sc : Scope) (e : Expr) : ShE k sc e (trE (k + 1) sc e) := by
  cases e with
  | Constant c a p => exact .const _ _ _
  | Name x p => exact .name _ _
  | BoolOp op es p => cases op with
    | And => exact .and _ _
    | Or => exact .or _ _
  | BinOp l op r p => exact .bin _ _ _ _
  | UnaryOp op x p => cases op with
    | Not => exact .not _ _
    | USub => exact .neg _ _
    | _ => exact .dead _
  | IfExp t b o p => exact .ite _ _ _ _
  | Dict ks vs p => exact .yes fun h => .dict _ _ _ h
  | ListComp el gs s p => cases gs with
    | nil => exact .dead _
    | cons g gs => cases gs with
      | cons _ _ => obtain ⟨t, it, ifs, n⟩ := g; cases t <;> first | exact .dead _ | (rcases n with (_ | _) | _ <;> exact .dead _)
      | nil =>
        obtain ⟨t, it, ifs, n⟩ := g
        cases t with
        | Name x px => cases n with
          | ofNat n => cases n with
            | zero => exact .yes fun h => .comp _ _ _ _ _ _ _ h
            | succ n => exact .dead _
          | negSucc n => exact .dead _
        | _ => exact .dead _
  | Compare l ops rs p => cases ops with
    | nil => exact .dead _
    | cons op ops => cases ops with
      | nil => cases rs with
        | nil => exact .dead _
        | cons r rs => cases rs with
          | nil => exact .no fun h => .cmp _ _ _ _ h
          | cons _ _ => exact .dead _
      | cons op2 ops => cases ops with
        | cons _ _ => exact .dead _
        | nil => cases rs with
          | nil => exact .dead _
          | cons m rs => cases rs with
            | nil => exact .dead _
            | cons r rs => cases rs with
              | nil => exact .no fun h => .cmp2 _ _ _ _ _ _ h
              | cons _ _ => exact .dead _
  | Call f args kws p => cases f with
    | Name f fp => cases kws with
      | nil => exact .no fun h => .callN _ _ _ _ h
      | cons _ _ => exact .dead _
    | Attribute o m ap => cases kws with
      | nil => exact .yes fun h => .meth _ _ _ _ _ h
      | cons _ _ => exact .dead _
    | _ => exact .dead _
  | Attribute o a p => exact .yes fun h => .attr _ _ _ h
  | Subscript v i q => cases i with
    | Slice a b c p => cases a <;> cases b <;> cases c <;> first | exact .from_ _ _ _ _ | exact .upto _ _ _ _ | exact .dead _
    | _ => exact .sub _ _ _ (fun _ _ _ _ e => nomatch e)
  | List es p => exact .no fun h => .list _ _ h
  | Tuple es a p => exact .no fun h => .tup _ _ _ h
  | _ => exact .dead _

inductive ShS (k : Nat) (sc : Scope) : Stmt → PS → Prop
  | dead (s : Stmt) : ShS k sc s .dead
  | ret (e : Expr) (p) : ShS k sc (.Return (some e) p) (.ret (trE 60 sc e))
  | expr (e : Expr) (p) (h : ¬ isCompE e = true) : ShS k sc (.Expr e p) (.expr (trE 60 sc e))
  | assign (x : Str) (xp) (e : Expr) (p) (h : isStoreName sc x = true) : ShS k sc (.Assign [.Name x xp] e p) (.assign (nm x) (trE 60 sc e))
  | swap (ts : List Expr) (a b) (es : List Expr) (c d p) (xs : List Str) (h : targetNames sc ts = some xs) (hn : xs.Nodup) (hc : (es.length == xs.length && decide (es.length ≤ 30) && !es.any isStarE && !es.all (constantsAlone 8)) = true) :
      ShS k sc (.Assign [.Tuple ts a b] (.Tuple es c d) p) (.swap (xs.map nm) (es.map (trE 60 sc)))
  | unpack (ts : List Expr) (a b) (e : Expr) (p) (xs : List Str) (h : targetNames sc ts = some xs) (hc : ¬ isCompE e = true) (ht : ∀ a b c, e ≠ .Tuple a b c) :
      ShS k sc (.Assign [.Tuple ts a b] e p) (.unpack (xs.map nm) (trE 60 sc e))
  | setItem (o i : Expr) (a) (e : Expr) (p) (h : ¬ isCompE e = true) : ShS k sc (.Assign [.Subscript o i a] e p) (.setItem (trE 60 sc o) (trE 60 sc i) (trE 60 sc e))
  | setAttr (o : Expr) (a : Str) (b) (e : Expr) (p) (h : (okAttr a && !isCompE e) = true) : ShS k sc (.Assign [.Attribute o a b] e p) (.setAttr (trE 60 sc o) (nm a) (trE 60 sc e))
  | ite (t : Expr) (b o : List Stmt) (p) : ShS k sc (.If t b o p) (.ite (trE 60 sc t) (b.map (trS k sc)) (o.map (trS k sc)))
  | for_ (x : Str) (a) (it : Expr) (b : List Stmt) (p) (h : isStoreName sc x = true) : ShS k sc (.For (.Name x a) it b [] p) (.for_ (nm x) (trE 60 sc it) (b.map (trS k sc)))
  | while_ (t : Expr) (b : List Stmt) (p) : ShS k sc (.While t b [] p) (.while_ (trE 60 sc t) (b.map (trS k sc)))
theorem ShS.yes {k : Nat} {sc : Scope} {e : Stmt} {a : PS} {c : Prop} [Decidable c] (h : c → ShS k sc e a) : ShS k sc e (if c then a else .dead) := by
  by_cases hc : c
  · rw [if_pos hc]; exact h hc
  · rw [if_neg hc]; exact .dead _
theorem ShS.no {k : Nat} {sc : Scope} {e : Stmt} {a : PS} {c : Prop} [Decidable c] (h : ¬ c → ShS k sc e a) : ShS k sc e (if c then .dead else a) := by
  by_cases hc : c
  · rw [if_pos hc]; exact .dead _
  · rw [if_neg hc]; exact h hc
theorem trS_sh (k : Nat) (sc : Scope) (s : Stmt) : ShS k sc s (trS (k + 1) sc s) := by
  cases s with
  | Return e p => cases e with
    | none => exact .dead _
    | some e => exact .ret _ _
  | Expr e p => exact .no fun h => .expr _ _ h
  | Assign ts e p => cases ts with
    | nil => exact .dead _
    | cons t ts => cases ts with
      | cons _ _ => cases t <;> exact .dead _
      | nil => cases t with
        | Name x xp => exact .yes fun h => .assign _ _ _ _ h
        | Tuple ts a b =>
          show ShS k sc _ (match targetNames sc ts with
            | some xs => if xs.Nodup then (match e with
              | .Tuple es _ _ => if es.length == xs.length && decide (es.length ≤ 30) && !es.any isStarE && !es.all (constantsAlone 8) then .swap (xs.map nm) (es.map (trE 60 sc)) else .dead
              | _ => if isCompE e then .dead else .unpack (xs.map nm) (trE 60 sc e)) else .dead
            | none => .dead)
          cases h : targetNames sc ts with
          | none => exact .dead _
          | some xs =>
            refine .yes fun hn => ?_
            cases e with
            | Tuple es c d => exact .yes fun hc => .swap _ _ _ _ _ _ _ _ h hn hc
            | _ => exact .no fun hc => .unpack _ _ _ _ _ _ h hc (fun _ _ _ e => nomatch e)
        | Subscript o i a => cases i with
          | Slice _ _ _ _ => exact .dead _
          | _ => exact .no fun h => .setItem _ _ _ _ _ h
        | Attribute o a b => exact .yes fun h => .setAttr _ _ _ _ _ h
        | _ => exact .dead _
  | If t b o p => exact .ite _ _ _ _
  | For t it b o p => cases t with
    | Name x a => cases o with
      | nil =>
        refine .yes fun h => ?_
        cases it with
        | Set _ _ => exact .dead _
        | _ => exact .for_ _ _ _ _ _ h
      | cons _ _ => exact .dead _
    | _ => exact .dead _
  | While t b o p => cases o with
    | nil => exact .while_ _ _ _
    | cons _ _ => exact .dead _
  | _ => exact .dead _
/-! the shapes of the built-ins' calls -/
inductive ShB (σ : Store) : Bi → List V → Option (V × Store) → Prop
  | dead (b : Bi) (as : List V) : ShB σ b as none
  | lenT (vs : List V) (h : vs.length ≤ big) : ShB σ .len [.tup vs] (some (.int vs.length, σ))
  | lenL (n : Nat) (vs : List V) (e : σ[n]? = some (.list vs)) (h : vs.length ≤ big) : ShB σ .len [.ref n] (some (.int vs.length, σ))
  | tupL (n : Nat) (vs : List V) (e : σ[n]? = some (.list vs)) (h : vs.length ≤ big) : ShB σ .tuple [.ref n] (some (.tup vs, σ))
  | listL (n : Nat) (vs : List V) (e : σ[n]? = some (.list vs)) (h : vs.length ≤ big) : ShB σ .list [.ref n] (some (.ref σ.length, σ ++ [.list vs]))
  | listT (vs : List V) (h : vs.length ≤ big) : ShB σ .list [.tup vs] (some (.ref σ.length, σ ++ [.list vs]))
  | listR (a b c : Int) (h : (decide (c = 1) && small a && small b && decide (rngLen a b c ≤ big)) = true) : ShB σ .list [.rng a b c] (some (.ref σ.length, σ ++ [.list (rngItems a b c)]))
  | sum (n : Nat) (vs : List V) (e : σ[n]? = some (.list vs)) (h : vs.length ≤ big) : ShB σ .sum [.ref n] ((allInts vs).map fun l => (.int l.sum, σ))
  | sorted (n : Nat) (kvs : List (Int × V)) (e : σ[n]? = some (.dictI kvs)) (h : kvs.length < 60) : ShB σ .sorted [.ref n] (some (.ref σ.length, σ ++ [.list ((sortI (kvs.map (·.1))).map .int)]))
  | range (b : Int) (h : small b = true) : ShB σ .range [.int b] (some (.rng 0 b 1, σ))
  | range3 (a b c : Int) (h : (small a && small b && (decide (c = 1) || decide (c = -1))) = true) : ShB σ .range [.int a, .int b, .int c] (some (.rng a b c, σ))
  | int (i : Int) : ShB σ .int [.int i] (some (.int i, σ))
theorem ShB.yes {σ : Store} {b : Bi} {as : List V} {a : Option (V × Store)} {c : Prop} [Decidable c] (h : c → ShB σ b as a) : ShB σ b as (if c then a else none) := by
  by_cases hc : c
  · rw [if_pos hc]; exact h hc
  · rw [if_neg hc]; exact .dead _ _
theorem ShB.cell {σ : Store} {b : Bi} {as : List V} {n : Nat} {f : List V → Option (V × Store)} (h : ∀ vs, σ[n]? = some (.list vs) → ShB σ b as (f vs)) : ShB σ b as (match σ[n]? with | some (.list vs) => f vs | _ => none) := by
  cases e : σ[n]? with
  | none => exact .dead _ _
  | some c => cases c with
    | list vs => exact h vs e
    | _ => exact .dead _ _
theorem biOp_sh (σ : Store) (b : Bi) (as : List V) : ShB σ b as (biOp σ b as) := by
  cases as with
  | nil => cases b <;> exact .dead _ _
  | cons a as =>
    cases as with
    | nil =>
      cases b with
      | len => cases a with
        | tup vs => exact .yes fun h => .lenT _ h
        | ref n => exact .cell (f := fun vs => if vs.length ≤ big then some (.int vs.length, σ) else none) fun vs e => .yes fun h => .lenL _ _ e h
        | _ => exact .dead _ _
      | tuple => cases a with
        | ref n => exact .cell (f := fun vs => if vs.length ≤ big then some (.tup vs, σ) else none) fun vs e => .yes fun h => .tupL _ _ e h
        | _ => exact .dead _ _
      | list => cases a with
        | ref n => exact .cell (f := fun vs => if vs.length ≤ big then some (.ref σ.length, σ ++ [.list vs]) else none) fun vs e => .yes fun h => .listL _ _ e h
        | tup vs => exact .yes fun h => .listT _ h
        | rng a b c => exact .yes fun h => .listR _ _ _ h
        | _ => exact .dead _ _
      | sum => cases a with
        | ref n => exact .cell (f := fun vs => if vs.length ≤ big then (allInts vs).map fun l => (.int l.sum, σ) else none) fun vs e => .yes fun h => .sum _ _ e h
        | _ => exact .dead _ _
      | sorted => cases a with
        | ref n =>
          show ShB σ _ _ (match σ[n]? with
            | some (.dictI kvs) => if kvs.length < 60 then some (.ref σ.length, σ ++ [.list ((sortI (kvs.map (·.1))).map .int)]) else none
            | _ => none)
          cases e : σ[n]? with
          | none => exact .dead _ _
          | some c => cases c with
            | dictI kvs => exact .yes fun h => .sorted _ _ e h
            | _ => exact .dead _ _
        | _ => exact .dead _ _
      | range => cases a with
        | int b => exact .yes fun h => .range _ h
        | _ => exact .dead _ _
      | int => cases a with
        | int i => exact .int _
        | _ => exact .dead _ _
    | cons a2 as =>
      cases b with
      | range => cases a with
        | int a => cases as with
          | nil => cases a2 <;> exact .dead _ _
          | cons a3 as => cases as with
            | nil => cases a2 with
              | int b => cases a3 with
                | int c => exact .yes fun h => .range3 _ _ _ h
                | _ => exact .dead _ _
              | _ => exact .dead _ _
            | cons _ _ => cases a2 <;> first | exact .dead _ _ | (cases a3 <;> exact .dead _ _)
        | _ => exact .dead _ _
      | _ => cases a <;> exact .dead _ _
theorem ite_some {α : Type} {c : Prop} [Decidable c] {a : Option α} {r : α} (h : (if c then a else none) = some r) : c ∧ a = some r := by
  by_cases hc : c
  · rw [if_pos hc] at h; exact ⟨hc, h⟩
  · rw [if_neg hc] at h; cases h
theorem ite_none {α : Type} {c : Prop} [Decidable c] {a : Option α} {r : α} (h : (if c then none else a) = some r) : ¬ c ∧ a = some r := by
  by_cases hc : c
  · rw [if_pos hc] at h; cases h
  · rw [if_neg hc] at h; exact ⟨hc, h⟩
theorem cell_list {α : Type} {o : Option Cell} {f : List V → Option α} {r : α} (h : (match o with | some (.list vs) => f vs | _ => none) = some r) : ∃ vs, o = some (.list vs) ∧ f vs = some r := by
  cases o with
  | none => cases h
  | some c => cases c with
    | list vs => exact ⟨vs, rfl, h⟩
    | _ => cases h
theorem cell_dictS {α : Type} {o : Option Cell} {f : List (List Nat × V) → Option α} {r : α} (h : (match o with | some (.dictS kvs) => f kvs | _ => none) = some r) : ∃ kvs, o = some (.dictS kvs) ∧ f kvs = some r := by
  cases o with
  | none => cases h
  | some c => cases c with
    | dictS vs => exact ⟨vs, rfl, h⟩
    | _ => cases h
theorem cell_two {α : Type} {o : Option Cell} {f : List V → Option α} {g : List (Int × V) → Option α} {r : α} (h : (match o with | some (.list vs) => f vs | some (.dictI kvs) => g kvs | _ => none) = some r) :
    (∃ vs, o = some (.list vs) ∧ f vs = some r) ∨ ∃ kvs, o = some (.dictI kvs) ∧ g kvs = some r := by
  cases o with
  | none => cases h
  | some c => cases c with
    | list vs => exact .inl ⟨vs, rfl, h⟩
    | dictI vs => exact .inr ⟨vs, rfl, h⟩
    | _ => cases h
theorem int2_some {va vb v : V} {f : Int → Int → Bool} (h : (match va, vb with | .int x, .int y => some (V.bool (f x y)) | _, _ => none) = some v) : ∃ x y, va = .int x ∧ vb = .int y ∧ v = .bool (f x y) := by
  cases va with
  | int x => cases vb with
    | int y => cases h; exact ⟨x, y, rfl, rfl, rfl⟩
    | _ => cases h
  | _ => cases h
inductive ShD : List V → List V → Cell → Prop
  | nil : ShD [] [] (.dictI [])
  | one (k : Int) (v : V) : ShD [.int k] [v] (.dictI [(k, v)])
  | oneS (a : List Nat) (v : V) : ShD [.str a] [v] (.dictS [(a, v)])
  | twoS (a b : List Nat) (v w : V) : ShD [.str a, .str b] [v, w] (.dictS (putS b w [(a, v)]))
theorem mkDict_sh {ks vs : List V} {c : Cell} (h : mkDict ks vs = some c) : ShD ks vs c := by
  cases ks with
  | nil => cases vs with
    | nil => cases h; exact .nil
    | cons _ _ => cases h
  | cons k ks => cases ks with
    | nil => cases vs with
      | nil => cases k <;> cases h
      | cons v vs => cases vs with
        | nil => cases k with
          | int k => cases h; exact .one _ _
          | str a => cases h; exact .oneS _ _
          | _ => cases h
        | cons _ _ => cases k <;> cases h
    | cons k2 ks => cases k with
      | str a => cases k2 with
        | str b => cases ks with
          | nil => cases vs with
            | nil => cases h
            | cons v vs => cases vs with
              | nil => cases h
              | cons w vs => cases vs with
                | nil => cases h; exact .twoS _ _ _ _
                | cons _ _ => cases h
          | cons _ _ => cases h
        | _ => cases h
      | _ => cases h
/-! a cell read -/
theorem on_list {α : Type} {o : Option Cell} {vs : List V} {f : List V → Option α} {r : α} (e : o = some (.list vs)) (h : f vs = some r) : (match (generalizing := false) o with | some (.list vs) => f vs | _ => none) = some r := by rw [e]; exact h
theorem on_dictI {α : Type} {o : Option Cell} {vs : List (Int × V)} {f : List (Int × V) → Option α} {r : α} (e : o = some (.dictI vs)) (h : f vs = some r) : (match (generalizing := false) o with | some (.dictI vs) => f vs | _ => none) = some r := by rw [e]; exact h
theorem on_dictS {α : Type} {o : Option Cell} {vs : List (List Nat × V)} {f : List (List Nat × V) → Option α} {r : α} (e : o = some (.dictS vs)) (h : f vs = some r) : (match (generalizing := false) o with | some (.dictS vs) => f vs | _ => none) = some r := by rw [e]; exact h
theorem on_inst {α : Type} {o : Option Cell} {vs : List (Nat × V)} {f : List (Nat × V) → Option α} {r : α} (e : o = some (.inst vs)) (h : f vs = some r) : (match (generalizing := false) o with | some (.inst vs) => f vs | _ => none) = some r := by rw [e]; exact h
theorem on_two1 {α : Type} {o : Option Cell} {vs : List V} {f : List V → Option α} {g : List (Int × V) → Option α} {r : α} (e : o = some (.list vs)) (h : f vs = some r) : (match (generalizing := false) o with | some (.list vs) => f vs | some (.dictI kvs) => g kvs | _ => none) = some r := by rw [e]; exact h
theorem on_two2 {α : Type} {o : Option Cell} {vs : List (Int × V)} {f : List V → Option α} {g : List (Int × V) → Option α} {r : α} (e : o = some (.dictI vs)) (h : g vs = some r) : (match (generalizing := false) o with | some (.list vs) => f vs | some (.dictI kvs) => g kvs | _ => none) = some r := by rw [e]; exact h
theorem le_big {n : Nat} (h : n ≤ 100) : n ≤ big := Nat.le_trans h (by decide)
theorem not_big {n : Nat} (h : n ≤ 100) : ¬ big < n := Nat.not_lt.mpr (le_big h)
/-! the shapes of a list's own methods -/
inductive ShL (σ : Store) (n : Nat) (vs : List V) : Nat → List V → V → Store → Prop
  | app (x : V) : ShL σ n vs 44 [x] .none (σ.set n (.list (vs ++ [x])))
  | pop (x : V) (hx : vs.getLast? = some x) : ShL σ n vs 45 [] x (σ.set n (.list vs.dropLast))
  | ext (ws : List V) (h : ws.length ≤ big) : ShL σ n vs 46 [.tup ws] .none (σ.set n (.list (vs ++ ws)))
  | idx (k : Int) (l : List Int) (hi : allInts vs = some l) (h : k ∈ l) : ShL σ n vs 47 [.int k] (.int (l.idxOf k)) σ
theorem listOp_sh {σ σ' : Store} {n m : Nat} {vs args : List V} {v : V} (h : listOp σ n vs m args = some (v, σ')) : ¬ big < vs.length ∧ ShL σ n vs m args v σ' := by
  unfold listOp at h
  replace h := ite_none h
  obtain ⟨hb, h⟩ := h
  refine ⟨hb, ?_⟩
  by_cases h4 : m = 44
  · rw [if_pos h4] at h
    subst h4
    cases args with
    | nil => exact (nn h).elim
    | cons x r => cases r with
      | nil => cases h; exact .app _
      | cons _ _ => exact (nn h).elim
  rw [if_neg h4] at h
  by_cases h5 : m = 45
  · rw [if_pos h5] at h
    subst h5
    cases args with
    | nil =>
      replace h : (match vs.getLast? with | some x => some (x, σ.set n (.list vs.dropLast)) | none => none) = some (v, σ') := h
      cases e : vs.getLast? with
      | none => rw [e] at h; exact (nn h).elim
      | some x => rw [e] at h; cases h; exact .pop _ e
    | cons _ _ => exact (nn h).elim
  rw [if_neg h5] at h
  by_cases h6 : m = 46
  · rw [if_pos h6] at h
    subst h6
    cases args with
    | nil => exact (nn h).elim
    | cons x r => cases r with
      | nil => cases x with
        | tup ws => replace h := ite_some h; obtain ⟨hw, h⟩ := h; cases h; exact .ext _ hw
        | _ => exact (nn h).elim
      | cons _ _ => cases x <;> exact (nn h).elim
  rw [if_neg h6] at h
  by_cases h7 : m = 47
  · rw [if_pos h7] at h
    subst h7
    cases args with
    | nil => exact (nn h).elim
    | cons x r => cases r with
      | nil => cases x with
        | int k =>
          replace h : (match allInts vs with | some l => if k ∈ l then some (V.int (l.idxOf k), σ) else none | none => none) = some (v, σ') := h
          cases e : allInts vs with
          | none => rw [e] at h; exact (nn h).elim
          | some l => rw [e] at h; replace h := ite_some h; obtain ⟨hk, h⟩ := h; cases h; exact .idx _ _ e hk
        | _ => exact (nn h).elim
      | cons _ _ => cases x <;> exact (nn h).elim
  rw [if_neg h7] at h
  exact (nn h).elim
theorem evs_nil {α : Type} {f : PE → Store → Option (V × Store)} {g : α → PE} {args : List α} {σ σ' : Store} (h : evs f (args.map g) σ = some ([], σ')) : args = [] ∧ σ' = σ := by
  cases args with
  | nil => cases h; exact ⟨rfl, rfl⟩
  | cons a r =>
    replace h : (match f (g a) σ with
      | some (v, σ) => (match evs f (r.map g) σ with
        | some (vs, σ) => some (v :: vs, σ)
        | none => none)
      | none => none) = some ([], σ') := h
    cases e : f (g a) σ with
    | none => rw [e] at h; exact (nn h).elim
    | some p =>
      rw [e] at h
      dsimp only at h
      cases e2 : evs f (r.map g) p.2 with
      | none => rw [e2] at h; exact (nn h).elim
      | some q => rw [e2] at h; cases h
theorem evs_one {α : Type} {f : PE → Store → Option (V × Store)} {g : α → PE} {args : List α} {σ σ' : Store} {x : V} (h : evs f (args.map g) σ = some ([x], σ')) : ∃ a, args = [a] ∧ f (g a) σ = some (x, σ') := by
  cases args with
  | nil => cases h
  | cons a r =>
    replace h : (match f (g a) σ with
      | some (v, σ) => (match evs f (r.map g) σ with
        | some (vs, σ) => some (v :: vs, σ)
        | none => none)
      | none => none) = some ([x], σ') := h
    cases e : f (g a) σ with
    | none => rw [e] at h; exact (nn h).elim
    | some p =>
      rw [e] at h
      dsimp only at h
      cases e2 : evs f (r.map g) p.2 with
      | none => rw [e2] at h; exact (nn h).elim
      | some q =>
        rw [e2] at h
        obtain ⟨x1, σ1⟩ := p
        obtain ⟨q1, q2⟩ := q
        cases h
        obtain ⟨rfl, rfl⟩ := evs_nil e2
        exact ⟨a, rfl, e⟩
end Ab

end
section
set_option maxRecDepth 1000000
set_option maxHeartbeats 4000000
namespace Ab
open PySem
noncomputable def fn0 : {f : Fn // FT 0 = some f} := by refine ⟨?f, ?h⟩; rotate_left; conv => lhs; reduce
noncomputable def fn1 : {f : Fn // FT 1 = some f} := by refine ⟨?f, ?h⟩; rotate_left; conv => lhs; reduce
noncomputable def fn2 : {f : Fn // FT 2 = some f} := by refine ⟨?f, ?h⟩; rotate_left; conv => lhs; reduce
noncomputable def fn3 : {f : Fn // FT 3 = some f} := by refine ⟨?f, ?h⟩; rotate_left; conv => lhs; reduce
noncomputable def fn4 : {f : Fn // FT 4 = some f} := by refine ⟨?f, ?h⟩; rotate_left; conv => lhs; reduce
noncomputable def fn5 : {f : Fn // FT 5 = some f} := by refine ⟨?f, ?h⟩; rotate_left; conv => lhs; reduce
noncomputable def fn6 : {f : Fn // FT 6 = some f} := by refine ⟨?f, ?h⟩; rotate_left; conv => lhs; reduce
noncomputable def fn7 : {f : Fn // FT 7 = some f} := by refine ⟨?f, ?h⟩; rotate_left; conv => lhs; reduce
noncomputable def fn8 : {f : Fn // FT 8 = some f} := by refine ⟨?f, ?h⟩; rotate_left; conv => lhs; reduce
noncomputable def fn9 : {f : Fn // FT 9 = some f} := by refine ⟨?f, ?h⟩; rotate_left; conv => lhs; reduce
noncomputable def fn10 : {f : Fn // FT 10 = some f} := by refine ⟨?f, ?h⟩; rotate_left; conv => lhs; reduce
noncomputable def fn11 : {f : Fn // FT 11 = some f} := by refine ⟨?f, ?h⟩; rotate_left; conv => lhs; reduce
noncomputable def fn12 : {f : Fn // FT 12 = some f} := by refine ⟨?f, ?h⟩; rotate_left; conv => lhs; reduce
noncomputable def fn13 : {f : Fn // FT 13 = some f} := by refine ⟨?f, ?h⟩; rotate_left; conv => lhs; reduce
noncomputable def fn14 : {f : Fn // FT 14 = some f} := by refine ⟨?f, ?h⟩; rotate_left; conv => lhs; reduce
noncomputable def fn15 : {f : Fn // FT 15 = some f} := by refine ⟨?f, ?h⟩; rotate_left; conv => lhs; reduce
noncomputable def fn16 : {f : Fn // FT 16 = some f} := by refine ⟨?f, ?h⟩; rotate_left; conv => lhs; reduce
noncomputable def fn17 : {f : Fn // FT 17 = some f} := by refine ⟨?f, ?h⟩; rotate_left; conv => lhs; reduce
noncomputable def fn18 : {f : Fn // FT 18 = some f} := by refine ⟨?f, ?h⟩; rotate_left; conv => lhs; reduce
noncomputable def fn19 : {f : Fn // FT 19 = some f} := by refine ⟨?f, ?h⟩; rotate_left; conv => lhs; reduce
noncomputable def fn20 : {f : Fn // FT 20 = some f} := by refine ⟨?f, ?h⟩; rotate_left; conv => lhs; reduce
noncomputable def fn21 : {f : Fn // FT 21 = some f} := by refine ⟨?f, ?h⟩; rotate_left; conv => lhs; reduce
end Ab

end
section
set_option maxRecDepth 100000
namespace Ab
open PySem

/-- an answer that is there, and is as told -/
noncomputable def WO {α : Type} (o : Option α) (P : α → Prop) : Prop := match o with
  | some a => P a
  | none => False
noncomputable def W2 {α β : Type} (o : Option (α × β)) (P : α → β → Prop) : Prop := match o with
  | some (a, b) => P a b
  | none => False
noncomputable def W3 {α β γ : Type} (o : Option (α × β × γ)) (P : α → β → γ → Prop) : Prop := match o with
  | some (a, b, c) => P a b c
  | none => False
noncomputable def WE (n : Nat) (e : PE) (ρ : Loc) (σ : Store) (P : V → Store → Prop) : Prop := W2 (ev n e ρ σ) P
noncomputable def WEs (n : Nat) (es : List PE) (ρ : Loc) (σ : Store) (P : List V → Store → Prop) : Prop := W2 (evs (fun e σ => ev n e ρ σ) es σ) P
noncomputable def WX (n : Nat) (s : PS) (ρ : Loc) (σ : Store) (P : Fl → Loc → Store → Prop) : Prop := W3 (exec n s ρ σ) P
noncomputable def WXs (n : Nat) (b : List PS) (ρ : Loc) (σ : Store) (P : Fl → Loc → Store → Prop) : Prop := W3 (execs (exec n) b ρ σ) P
noncomputable def WC (n i : Nat) (vs : List V) (σ : Store) (P : V → Store → Prop) : Prop := W2 (callF n i vs σ) P
noncomputable def WL (src : V) (one : V → Store → Option (Option V × Store)) (t k : Nat) (acc : List V) (σ : Store) (P : List V → Store → Prop) : Prop := W2 (compLoop src one t k acc σ) P
noncomputable def WF (src : V) (one : V → Loc → Store → Option (Fl × Loc × Store)) (t k : Nat) (ρ : Loc) (σ : Store) (P : Fl → Loc → Store → Prop) : Prop := W3 (forLoop src one t k ρ σ) P
noncomputable def WW (test : Loc → Store → Option (Bool × Store)) (one : Loc → Store → Option (Fl × Loc × Store)) (t : Nat) (ρ : Loc) (σ : Store) (P : Fl → Loc → Store → Prop) : Prop := W3 (whileLoop test one t ρ σ) P
noncomputable def isNone : V → Bool
  | .none => true
  | _ => false

theorem WO.mono {α : Type} {o : Option α} {P Q : α → Prop} (h : WO o P) (k : ∀ a, P a → Q a) : WO o Q := by
  cases o with
  | none => exact h
  | some a => exact k a h
theorem W2.mono {α β : Type} {o : Option (α × β)} {P Q : α → β → Prop} (h : W2 o P) (k : ∀ a b, P a b → Q a b) : W2 o Q := by
  cases o with
  | none => exact h
  | some a => exact k a.1 a.2 h
theorem W3.mono {α β γ : Type} {o : Option (α × β × γ)} {P Q : α → β → γ → Prop} (h : W3 o P) (k : ∀ a b c, P a b c → Q a b c) : W3 o Q := by
  cases o with
  | none => exact h
  | some a => exact k a.1 a.2.1 a.2.2 h
section
variable {α β γ δ ε : Type}
theorem wo_some {a : α} {P : α → Prop} : WO (some a) P ↔ P a := Iff.rfl
theorem wo_of {o : Option α} {a : α} {P : α → Prop} (h : o = some a) (p : P a) : WO o P := by rw [h]; exact p
theorem w2_of {o : Option (α × β)} {a : α} {b : β} {P : α → β → Prop} (h : o = some (a, b)) (p : P a b) : W2 o P := by rw [h]; exact p
theorem b22 {o : Option (α × β)} {f : α × β → Option (γ × δ)} {P : γ → δ → Prop} (h : W2 o fun a b => W2 (f (a, b)) P) : W2 (one? o f) P := by
  cases o with
  | none => exact h
  | some a => exact h
theorem b32 {o : Option (α × β × ε)} {f : α × β × ε → Option (γ × δ)} {P : γ → δ → Prop} (h : W3 o fun a b c => W2 (f (a, b, c)) P) : W2 (one? o f) P := by
  cases o with
  | none => exact h
  | some a => exact h
theorem b23 {o : Option (α × β)} {f : α × β → Option (γ × δ × ε)} {P : γ → δ → ε → Prop} (h : W2 o fun a b => W3 (f (a, b)) P) : W3 (one? o f) P := by
  cases o with
  | none => exact h
  | some a => exact h
theorem bO2 {o : Option α} {f : α → Option (γ × δ)} {P : γ → δ → Prop} (h : WO o fun a => W2 (f a) P) : W2 (one? o f) P := by
  cases o with
  | none => exact h
  | some a => exact h
theorem bO3 {o : Option α} {f : α → Option (γ × δ × ε)} {P : γ → δ → ε → Prop} (h : WO o fun a => W3 (f a) P) : W3 (one? o f) P := by
  cases o with
  | none => exact h
  | some a => exact h
theorem m2 {o : Option α} {f : α → γ × δ} {P : γ → δ → Prop} (h : WO o fun a => W2 (some (f a)) P) : W2 (o.map f) P := by
  cases o with
  | none => exact h
  | some a => exact h
theorem m3 {o : Option α} {f : α → γ × δ × ε} {P : γ → δ → ε → Prop} (h : WO o fun a => W3 (some (f a)) P) : W3 (o.map f) P := by
  cases o with
  | none => exact h
  | some a => exact h
theorem i2 {c : Prop} [Decidable c] {x y : Option (γ × δ)} {P : γ → δ → Prop} (h : if c then W2 x P else W2 y P) : W2 (if c then x else y) P := by
  by_cases hc : c
  · rw [if_pos hc] at h ⊢; exact h
  · rw [if_neg hc] at h ⊢; exact h
theorem i3 {c : Prop} [Decidable c] {x y : Option (γ × δ × ε)} {P : γ → δ → ε → Prop} (h : if c then W3 x P else W3 y P) : W3 (if c then x else y) P := by
  by_cases hc : c
  · rw [if_pos hc] at h ⊢; exact h
  · rw [if_neg hc] at h ⊢; exact h
end

section
variable (n : Nat) (ρ : Loc) (σ : Store) (P : V → Store → Prop) (Q : Fl → Loc → Store → Prop) (R : List V → Store → Prop) (e l r : PE) (es ks vs : List PE) (a b : V)
/-! what is to be done behind a part: named, so that no formula is copied -/
noncomputable def LO (o : Option V) (K : V → Prop) : Prop := match o with
  | some v => K v
  | none => False
noncomputable abbrev kS : V → Prop := fun c => P c σ
noncomputable abbrev kB2 (op : Operator) : V → Store → Prop := fun b σ => WO (binOp op a b) (kS σ P)
noncomputable abbrev kB1 (op : Operator) : V → Store → Prop := fun a σ => WE n r ρ σ (kB2 P a op)
noncomputable abbrev kNb : Bool → Prop := fun t => P (.bool (!t)) σ
noncomputable abbrev kBo : Bool → Prop := fun t => P (.bool t) σ
noncomputable abbrev kN : V → Store → Prop := fun a σ => WO (truthy a) (kNb σ P)
noncomputable def negV : V → Option V
  | .int i => some (.int (-i))
  | _ => none
noncomputable abbrev kG : V → Store → Prop := fun a σ => WO (negV a) (kS σ P)
noncomputable abbrev kIb : Bool → Prop := fun t => if t then WE n l ρ σ P else WE n r ρ σ P
noncomputable abbrev kI : V → Store → Prop := fun a σ => WO (truthy a) (kIb n ρ σ P l r)
noncomputable abbrev kC2 (op : CmpOp) : V → Store → Prop := fun b σ => WO (cmpOp σ op a b) (kS σ P)
noncomputable abbrev kC1 (op : CmpOp) : V → Store → Prop := fun a σ => WE n r ρ σ (kC2 P a op)
noncomputable abbrev kD4 (op : CmpOp) (c : V) : Bool → Prop := fun t => if t then WE n r ρ σ (kC2 P b op) else P c σ
noncomputable abbrev kD3 (op : CmpOp) : V → Prop := fun c => WO (truthy c) (kD4 n ρ σ P r b op c)
noncomputable abbrev kD2 (o1 o2 : CmpOp) : V → Store → Prop := fun b σ => WO (cmpOp σ o1 a b) (kD3 n ρ σ P r b o2)
noncomputable abbrev kD1 (o1 o2 : CmpOp) : V → Store → Prop := fun a σ => WE n l ρ σ (kD2 n ρ P r a o1 o2)
noncomputable abbrev kY (t : Ty) : V → Store → Prop := fun a σ => WO (isiOp a t) (kBo σ P)
noncomputable abbrev kA (x : Nat) : V → Store → Prop := fun v σ => WO (attrOp σ v x) (kS σ P)
noncomputable abbrev kF2 : V → Store → Prop := fun b _ => WO (fromOp a b) (kS σ P)
noncomputable abbrev kF1' : V → Store → Prop := fun b σ => WO (fromOp a b) (kS σ P)
noncomputable abbrev kF1 : V → Store → Prop := fun a σ => WE n r ρ σ (kF1' P a)
noncomputable abbrev kU2 : V → Store → Prop := fun b σ => W2 (uptoOp σ a b) P
noncomputable abbrev kU1 : V → Store → Prop := fun a σ => WE n r ρ σ (kU2 P a)
noncomputable abbrev kX2 : V → Store → Prop := fun b σ => WO (subOp σ a b) (kS σ P)
noncomputable abbrev kX1 : V → Store → Prop := fun a σ => WE n r ρ σ (kX2 P a)
noncomputable abbrev kE2 : List V → Store → Prop := fun vs σ => R (a :: vs) σ
noncomputable abbrev kE1 : V → Store → Prop := fun v σ => WEs n es ρ σ (kE2 R v)
noncomputable abbrev kL : List V → Store → Prop := fun vs σ => P (.ref σ.length) (σ ++ [.list vs])
noncomputable abbrev kT : List V → Store → Prop := fun vs σ => P (.tup vs) σ
noncomputable abbrev kBi (b : Bi) : List V → Store → Prop := fun vs σ => W2 (biOp σ b vs) P
noncomputable abbrev kCl (f : Nat) : List V → Store → Prop := fun vs σ => WC n f vs σ P
noncomputable abbrev kW3 (c k : Nat) : V → Store → Prop := fun r σ => isNone r = true ∧ P (.obj k c) σ
noncomputable abbrev kW2 (c : Nat) (vs : List V) : Nat → Prop := fun f => WC n f (.obj σ.length c :: vs) (σ ++ [.inst []]) (kW3 P c σ.length)
noncomputable abbrev kW1 (c : Nat) : List V → Store → Prop := fun vs σ => WO inits[c]? (kW2 n σ P c vs)
/-- a method: what stands ahead of its arguments, what behind -/
noncomputable def mth (n : Nat) (a : V) (m : Nat) (vs : List V) (σ1 σ2 : Store) : Option (V × Store) := match a with
  | .ref k => (match σ1[k]?, σ2[k]? with | some (.list _), some (.list ws) => listOp σ2 k ws m vs | _, _ => none)
  | .obj k c => (match σ1[k]? with | some (.inst fs) => if (lookA m fs).isNone && decide (c < 2) then one? (methOf c m) fun f => callF n f (.obj k c :: vs) σ2 else none | _ => none)
  | _ => none
noncomputable def WM (n : Nat) (a : V) (m : Nat) (vs : List V) (σ1 σ2 : Store) (P : V → Store → Prop) : Prop := W2 (mth n a m vs σ1 σ2) P
noncomputable abbrev kM2 (m : Nat) : List V → Store → Prop := fun vs σ2 => WM n a m vs σ σ2 P
noncomputable abbrev kM1 (m : Nat) : V → Store → Prop := fun a σ => WEs n es ρ σ (kM2 n σ P a m)
noncomputable abbrev compOne (x : Nat) (ifs : List PE) : V → Store → Option (Option V × Store) := fun v σ =>
  one? (evIfs (fun e σ => ev n e (upd ρ x v) σ) ifs σ) fun (ok, σ) => if ok then (ev n e (upd ρ x v) σ).map fun (w, σ) => (some w, σ) else some (none, σ)
noncomputable abbrev kO (x : Nat) (ifs : List PE) : V → Store → Prop := fun src σ => WL src (compOne n ρ e x ifs) laps 0 [] σ (kL P)
/-- the parts of an and / or -/
noncomputable def WA (isAnd : Bool) (n : Nat) : List PE → Loc → Store → (V → Store → Prop) → Prop
  | [], _, _, _ => False
  | [e], ρ, σ, P => WE n e ρ σ P
  | e :: r, ρ, σ, P => WE n e ρ σ fun v σ1 => WO (truthy v) fun t => if t = isAnd then WA isAnd n r ρ σ1 P else P v σ1
noncomputable abbrev kP2 (isAnd : Bool) (v : V) : Bool → Prop := fun t => if t = isAnd then WA isAnd n es ρ σ P else P v σ
noncomputable abbrev kP1 (isAnd : Bool) : V → Store → Prop := fun v σ => WO (truthy v) (kP2 n ρ σ P es isAnd v)
noncomputable def WK (n : Nat) : List PE → List PE → Loc → Store → (List V → List V → Store → Prop) → Prop
  | [], [], _, σ, R => R [] [] σ
  | k :: ks, v :: vs, ρ, σ, R => WE n k ρ σ fun a σ1 => WE n v ρ σ1 fun b σ2 => WK n ks vs ρ σ2 fun as bs σ3 => R (a :: as) (b :: bs) σ3
  | _, _, _, _, _ => False
noncomputable abbrev kK3 (R : List V → List V → Store → Prop) : List V → List V → Store → Prop := fun as bs σ => R (a :: as) (b :: bs) σ
noncomputable abbrev kK2 (R : List V → List V → Store → Prop) : V → Store → Prop := fun b σ => WK n ks vs ρ σ (kK3 a b R)
noncomputable abbrev kK1 (R : List V → List V → Store → Prop) : V → Store → Prop := fun a σ => WE n e ρ σ (kK2 n ρ ks vs a R)
noncomputable abbrev kQ2 : Cell → Prop := fun c => P (.ref σ.length) (σ ++ [c])
noncomputable abbrev kQ1 : List V → List V → Store → Prop := fun as bs σ => WO (mkDict as bs) (kQ2 σ P)

noncomputable abbrev stepE (n : Nat) (e : PE) (ρ : Loc) (σ : Store) (P : V → Store → Prop) : Prop := match e with
  | .dead => False
  | .lit v => P v σ
  | .loc x => LO (ρ x) (kS σ P)
  | .cel x => LO (ρ x) (kS σ P)
  | .told => P .told σ
  | .and es => WA true n es ρ σ P
  | .or es => WA false n es ρ σ P
  | .bin op l r => WE n l ρ σ (kB1 n ρ P r op)
  | .not x => WE n x ρ σ (kN P)
  | .neg x => WE n x ρ σ (kG P)
  | .ite t b o => WE n t ρ σ (kI n ρ P b o)
  | .dict ks vs => WK n ks vs ρ σ (kQ1 P)
  | .comp x it ifs el => WE n it ρ σ (kO n ρ P el x ifs)
  | .cmp op l r => WE n l ρ σ (kC1 n ρ P r op)
  | .cmp2 o1 o2 l m r => WE n l ρ σ (kD1 n ρ P m r o1 o2)
  | .call f es => WEs n es ρ σ (kCl n P f)
  | .new c es => WEs n es ρ σ (kW1 n P c)
  | .bi b es => WEs n es ρ σ (kBi P b)
  | .isi x t => WE n x ρ σ (kY P t)
  | .meth o m es => WE n o ρ σ (kM1 n ρ P es m)
  | .attr o a => WE n o ρ σ (kA P a)
  | .from_ l r => WE n l ρ σ (kF1 n ρ P r)
  | .upto l r => WE n l ρ σ (kU1 n ρ P r)
  | .sub l r => WE n l ρ σ (kX1 n ρ P r)
  | .list es => WEs n es ρ σ (kL P)
  | .tup es => WEs n es ρ σ (kT P)
noncomputable abbrev stepEs (n : Nat) (es : List PE) (ρ : Loc) (σ : Store) (R : List V → Store → Prop) : Prop := match es with
  | [] => R [] σ
  | e :: r => WE n e ρ σ (kE1 n ρ R r)

noncomputable abbrev after (n : Nat) (r : List PS) (Q : Fl → Loc → Store → Prop) : Fl → Loc → Store → Prop
  | .next, ρ, σ => WXs n r ρ σ Q
  | .ret v, ρ, σ => Q (.ret v) ρ σ
noncomputable abbrev stepXs (n : Nat) (b : List PS) (ρ : Loc) (σ : Store) (Q : Fl → Loc → Store → Prop) : Prop := match b with
  | [] => Q .next ρ σ
  | s :: r => WX n s ρ σ (after n r Q)
noncomputable def tupOf (k : Nat) : V → Option (List V)
  | .tup vs => if vs.length = k then some vs else none
  | _ => none
noncomputable abbrev qA (x : Nat) : V → Store → Prop := fun v σ => Q .next (upd ρ x v) σ
noncomputable abbrev qU2 (xs : List Nat) : List V → Prop := fun vs => Q .next (bindAll xs vs ρ) σ
noncomputable abbrev qU1 (xs : List Nat) : V → Store → Prop := fun v σ => WO (tupOf xs.length v) (qU2 ρ σ Q xs)
noncomputable abbrev qS (xs : List Nat) : List V → Store → Prop := fun vs σ => Q .next (bindAll xs vs ρ) σ
noncomputable abbrev qN : Store → Prop := fun σ => Q .next ρ σ
noncomputable abbrev qI3 (v : V) : V → Store → Prop := fun b σ => WO (setItemOp σ a b v) (qN ρ Q)
noncomputable abbrev qI2 (v : V) : V → Store → Prop := fun a σ => WE n r ρ σ (qI3 ρ Q a v)
noncomputable abbrev qI1 : V → Store → Prop := fun v σ => WE n l ρ σ (qI2 n ρ Q r v)
noncomputable abbrev qT2 (x : Nat) (v : V) : V → Store → Prop := fun b σ => WO (setAttrOp σ b x v) (qN ρ Q)
noncomputable abbrev qT1 (x : Nat) : V → Store → Prop := fun v σ => WE n l ρ σ (qT2 ρ Q x v)
noncomputable abbrev qE : V → Store → Prop := fun _ σ => Q .next ρ σ
noncomputable abbrev qR : V → Store → Prop := fun v σ => Q (.ret v) ρ σ
noncomputable abbrev qF2 (b o : List PS) : Bool → Prop := fun t => if t then WXs n b ρ σ Q else WXs n o ρ σ Q
noncomputable abbrev qF1 (b o : List PS) : V → Store → Prop := fun a σ => WO (truthy a) (qF2 n ρ σ Q b o)
noncomputable abbrev forOne (x : Nat) (b : List PS) : V → Loc → Store → Option (Fl × Loc × Store) := fun v ρ σ => execs (exec n) b (upd ρ x v) σ
noncomputable abbrev qO (x : Nat) (b : List PS) : V → Store → Prop := fun src σ => WF src (forOne n x b) laps 0 ρ σ Q
noncomputable abbrev whTest : Loc → Store → Option (Bool × Store) := fun ρ σ => one? (ev n e ρ σ) fun (a, σ) => (truthy a).map (·, σ)
noncomputable abbrev stepX (n : Nat) (s : PS) (ρ : Loc) (σ : Store) (Q : Fl → Loc → Store → Prop) : Prop := match s with
  | .dead => False
  | .assign x e => WE n e ρ σ (qA ρ Q x)
  | .unpack xs e => WE n e ρ σ (qU1 ρ Q xs)
  | .swap xs es => WEs n es ρ σ (qS ρ Q xs)
  | .setItem o i e => WE n e ρ σ (qI1 n ρ Q o i)
  | .setAttr o a e => WE n e ρ σ (qT1 n ρ Q o a)
  | .expr e => WE n e ρ σ (qE ρ Q)
  | .ret e => WE n e ρ σ (qR ρ Q)
  | .ite t b o => WE n t ρ σ (qF1 n ρ Q b o)
  | .for_ x it b => WE n it ρ σ (qO n ρ Q x b)
  | .while_ t b => WW (whTest n t) (execs (exec n) b) laps ρ σ Q
/-- what a call's frame hands on -/
noncomputable abbrev retQ (P : V → Store → Prop) : Fl → Loc → Store → Prop
  | .ret v, _, σ => P v σ
  | .next, _, σ => P .none σ
end

section
variable {n : Nat} {ρ : Loc} {σ : Store} {P : V → Store → Prop} {Q : Fl → Loc → Store → Prop} {R : List V → Store → Prop}
theorem lo_of {o : Option V} {v : V} {K : V → Prop} (e : o = some v) (h : K v) : LO o K := by rw [e]; exact h
theorem lo_m {o : Option V} (h : LO o (kS σ P)) : W2 (o.map (·, σ)) P := by
  cases o with
  | none => exact h
  | some v => exact h
theorem wa_one {b : Bool} {e : PE} (h : WE n e ρ σ P) : WA b n [e] ρ σ P := h
theorem wa_cons {b : Bool} {e e2 : PE} {r : List PE} (h : WE n e ρ σ (kP1 n ρ P (e2 :: r) b)) : WA b n (e :: e2 :: r) ρ σ P := h
theorem wa_and : ∀ {es : List PE} {σ : Store}, WA true n es ρ σ P → W2 (evAnd (fun e σ => ev n e ρ σ) es σ) P
  | [], _, h => h.elim
  | [_], _, h => h
  | e :: e2 :: r, σ, h => by
    have h : W2 (ev n e ρ σ) (kP1 n ρ P (e2 :: r) true) := h
    unfold evAnd
    cases h1 : ev n e ρ σ with
    | none => rw [h1] at h; exact h
    | some p =>
      rw [h1] at h
      obtain ⟨a, σ1⟩ := p
      have h : WO (truthy a) (kP2 n ρ σ1 P (e2 :: r) true a) := h
      dsimp only
      cases h2 : truthy a with
      | none => rw [h2] at h; exact h
      | some t =>
        rw [h2] at h
        cases t with
        | true => exact wa_and h
        | false => exact h
theorem wa_or : ∀ {es : List PE} {σ : Store}, WA false n es ρ σ P → W2 (evOr (fun e σ => ev n e ρ σ) es σ) P
  | [], _, h => h.elim
  | [_], _, h => h
  | e :: e2 :: r, σ, h => by
    have h : W2 (ev n e ρ σ) (kP1 n ρ P (e2 :: r) false) := h
    unfold evOr
    cases h1 : ev n e ρ σ with
    | none => rw [h1] at h; exact h
    | some p =>
      rw [h1] at h
      obtain ⟨a, σ1⟩ := p
      have h : WO (truthy a) (kP2 n ρ σ1 P (e2 :: r) false a) := h
      dsimp only
      cases h2 : truthy a with
      | none => rw [h2] at h; exact h
      | some t =>
        rw [h2] at h
        cases t with
        | false => exact wa_or h
        | true => exact h
theorem wk_nil {R : List V → List V → Store → Prop} (h : R [] [] σ) : WK n [] [] ρ σ R := h
theorem wk_cons {k v : PE} {ks vs : List PE} {R : List V → List V → Store → Prop} (h : WE n k ρ σ (kK1 n ρ v ks vs R)) : WK n (k :: ks) (v :: vs) ρ σ R := h
theorem wk_eq : ∀ {ks vs : List PE} {σ : Store} {R : List V → List V → Store → Prop}, WK n ks vs ρ σ R → W3 (evKV (fun e σ => ev n e ρ σ) ks vs σ) R
  | [], [], _, _, h => h
  | [], _ :: _, _, _, h => h.elim
  | _ :: _, [], _, _, h => h.elim
  | k :: ks, v :: vs, σ, R, h => by
    have h : W2 (ev n k ρ σ) (kK1 n ρ v ks vs R) := h
    unfold evKV
    cases h1 : ev n k ρ σ with
    | none => rw [h1] at h; exact h
    | some p =>
      rw [h1] at h
      obtain ⟨a, σ1⟩ := p
      have h : W2 (ev n v ρ σ1) (kK2 n ρ ks vs a R) := h
      dsimp only
      cases h2 : ev n v ρ σ1 with
      | none => rw [h2] at h; exact h
      | some p =>
        rw [h2] at h
        obtain ⟨b, σ2⟩ := p
        have h := wk_eq (show WK n ks vs ρ σ2 (kK3 a b R) from h)
        dsimp only
        cases h3 : evKV (fun e σ => ev n e ρ σ) ks vs σ2 with
        | none => rw [h3] at h; exact h
        | some p => rw [h3] at h; exact h

theorem we_of {e : PE} (h : stepE n e ρ σ P) : WE (n + 1) e ρ σ P := by
  cases e with
  | dead => exact h.elim
  | lit => exact h
  | loc => exact lo_m h
  | cel => exact lo_m h
  | told => exact h
  | and => exact wa_and h
  | or => exact wa_or h
  | bin => exact b22 (W2.mono h fun _ _ h => b22 (W2.mono h fun _ _ h => m2 h))
  | not => exact b22 (W2.mono h fun _ _ h => m2 h)
  | neg =>
    exact b22 (W2.mono h fun a _ h => by
      cases a with
      | int i => exact h
      | _ => exact h.elim)
  | ite => exact b22 (W2.mono h fun _ _ h => bO2 (WO.mono h fun _ h => i2 h))
  | dict => exact b32 (W3.mono (wk_eq h) fun _ _ _ h => m2 h)
  | comp => exact b22 (W2.mono h fun _ _ h => b22 h)
  | cmp => exact b22 (W2.mono h fun _ _ h => b22 (W2.mono h fun _ _ h => m2 h))
  | cmp2 =>
    exact b22 (W2.mono h fun _ _ h => b22 (W2.mono h fun _ _ h => bO2 (WO.mono h fun _ h => bO2 (WO.mono h fun t h => by
      cases t with
      | true => exact b22 (W2.mono h fun _ _ h => m2 h)
      | false => exact h))))
  | call => exact b22 h
  | new =>
    exact b22 (W2.mono h fun _ _ h => bO2 (WO.mono h fun _ h => b22 (W2.mono h fun r _ h => by
      cases r with
      | none => exact h.2
      | _ => exact absurd h.1 Bool.false_ne_true)))
  | bi => exact b22 h
  | isi => exact b22 (W2.mono h fun _ _ h => m2 h)
  | meth => exact b22 (W2.mono h fun _ _ h => b22 h)
  | attr => exact b22 (W2.mono h fun _ _ h => m2 h)
  | from_ => exact b22 (W2.mono h fun _ _ h => b22 (W2.mono h fun _ _ h => m2 h))
  | upto => exact b22 (W2.mono h fun _ _ h => b22 h)
  | sub => exact b22 (W2.mono h fun _ _ h => b22 (W2.mono h fun _ _ h => m2 h))
  | list => exact b22 (W2.mono h fun _ _ h => h)
  | tup => exact b22 (W2.mono h fun _ _ h => h)
theorem wes_of {es : List PE} (h : stepEs n es ρ σ R) : WEs n es ρ σ R := by
  cases es with
  | nil => exact h
  | cons e r =>
    have h : W2 (ev n e ρ σ) (kE1 n ρ R r) := h
    unfold WEs evs
    cases h1 : ev n e ρ σ with
    | none => rw [h1] at h; exact h
    | some p =>
      rw [h1] at h
      obtain ⟨a, σ1⟩ := p
      have h : W2 (evs (fun e σ => ev n e ρ σ) r σ1) (kE2 R a) := h
      dsimp only
      cases h2 : evs (fun e σ => ev n e ρ σ) r σ1 with
      | none => rw [h2] at h; exact h
      | some p => rw [h2] at h; exact h
theorem wxs_of {b : List PS} (h : stepXs n b ρ σ Q) : WXs n b ρ σ Q := by
  cases b with
  | nil => exact h
  | cons s r =>
    have h : W3 (exec n s ρ σ) (after n r Q) := h
    unfold WXs execs
    cases h1 : exec n s ρ σ with
    | none => rw [h1] at h; exact h
    | some p =>
      rw [h1] at h
      obtain ⟨fl, ρ1, σ1⟩ := p
      cases fl with
      | next => exact h
      | ret v => exact h
theorem wx_of {s : PS} (h : stepX n s ρ σ Q) : WX (n + 1) s ρ σ Q := by
  cases s with
  | dead => exact h.elim
  | assign => exact b23 (W2.mono h fun _ _ h => h)
  | unpack xs =>
    exact b23 (W2.mono h fun v σ h => by
      cases v with
      | tup vs =>
        have h : WO (if vs.length = xs.length then some vs else none) (qU2 ρ σ Q xs) := h
        refine i3 (P := Q) ?_
        by_cases hl : vs.length = xs.length
        · rw [if_pos hl] at h ⊢; exact h
        · rw [if_neg hl] at h; exact h.elim
      | _ => exact h.elim)
  | swap => exact b23 (W2.mono h fun _ _ h => h)
  | setItem => exact b23 (W2.mono h fun _ _ h => b23 (W2.mono h fun _ _ h => b23 (W2.mono h fun _ _ h => m3 h)))
  | setAttr => exact b23 (W2.mono h fun _ _ h => b23 (W2.mono h fun _ _ h => m3 h))
  | expr => exact b23 (W2.mono h fun _ _ h => h)
  | ret => exact b23 (W2.mono h fun _ _ h => h)
  | ite => exact b23 (W2.mono h fun _ _ h => bO3 (WO.mono h fun _ h => i3 h))
  | for_ => exact b23 h
  | while_ => exact h
theorem wc_step {i : Nat} {fn : Fn} {vs : List V} (h : FT i = some fn) (hl : fn.params.length = vs.length) (q : WXs n fn.body (bindAll fn.params vs fun _ => none) σ (retQ P)) : WC (n + 1) i vs σ P := by
  show W2 (one? (FT i) _) P
  rw [h]
  show W2 (if fn.params.length = vs.length then _ else none) P
  rw [if_pos hl]
  refine b32 (W3.mono q fun fl _ _ h => ?_)
  cases fl with
  | next => exact h
  | ret v => exact h
end

/-! mono, laps -/
theorem WC.mono {n i : Nat} {vs : List V} {σ : Store} {P P' : V → Store → Prop} (h : WC n i vs σ P) (hp : ∀ v σ', P v σ' → P' v σ') : WC n i vs σ P' := by
  unfold WC W2 at *
  split at h
  · exact hp _ _ h
  · exact h.elim

/-- a source's things -/
noncomputable def Src (src : V) (items : List V) (σ : Store) : Prop := ∀ k, itemAt σ src k = some items[k]?

theorem wl_run {src : V} {one : V → Store → Option (Option V × Store)} {items : List V} (I : Nat → List V → Store → Prop) (P : List V → Store → Prop) (hs : ∀ k acc σ, I k acc σ → Src src items σ)
    (step : ∀ k acc σ v, I k acc σ → items[k]? = some v → W2 (one v σ) fun r σ' => (match r with | some w => I (k + 1) (acc ++ [w]) σ' | none => I (k + 1) acc σ'))
    (fin : ∀ acc σ, I items.length acc σ → P acc σ) : ∀ (t k : Nat) (acc : List V) (σ : Store), I k acc σ → k ≤ items.length → items.length < t + k → WL src one t k acc σ P
  | 0, k, acc, σ, h, hk, ht => absurd ht (by omega)
  | t + 1, k, acc, σ, h, hk, ht => by
    unfold WL
    simp only [compLoop, hs k acc σ h k]
    by_cases hk2 : k < items.length
    · rw [List.getElem?_eq_getElem hk2]
      have h2 := step k acc σ _ h (List.getElem?_eq_getElem hk2)
      dsimp only
      cases h1 : one items[k] σ with
      | none => rw [h1] at h2; exact h2.elim
      | some p =>
        obtain ⟨r, σ1⟩ := p
        rw [h1] at h2
        cases r with
        | some w => exact wl_run I P hs step fin t (k + 1) _ _ h2 hk2 (by omega)
        | none => exact wl_run I P hs step fin t (k + 1) _ _ h2 hk2 (by omega)
    · have : k = items.length := by omega
      subst this
      rw [List.getElem?_eq_none (Nat.le_refl _)]
      exact fin _ _ h

theorem wf_run {src : V} {one : V → Loc → Store → Option (Fl × Loc × Store)} {items : List V} (I : Nat → Loc → Store → Prop) (Q : Fl → Loc → Store → Prop) (hs : ∀ k ρ σ, I k ρ σ → Src src items σ)
    (step : ∀ k ρ σ v, I k ρ σ → items[k]? = some v → W3 (one v ρ σ) fun fl ρ' σ' => (match fl with | .next => I (k + 1) ρ' σ' | .ret r => Q (.ret r) ρ' σ'))
    (fin : ∀ ρ σ, I items.length ρ σ → Q .next ρ σ) : ∀ (t k : Nat) (ρ : Loc) (σ : Store), I k ρ σ → k ≤ items.length → items.length < t + k → WF src one t k ρ σ Q
  | 0, k, ρ, σ, h, hk, ht => absurd ht (by omega)
  | t + 1, k, ρ, σ, h, hk, ht => by
    unfold WF
    simp only [forLoop, hs k ρ σ h k]
    by_cases hk2 : k < items.length
    · rw [List.getElem?_eq_getElem hk2]
      have h2 := step k ρ σ _ h (List.getElem?_eq_getElem hk2)
      dsimp only
      cases h1 : one items[k] ρ σ with
      | none => rw [h1] at h2; exact h2.elim
      | some p =>
        obtain ⟨fl, ρ1, σ1⟩ := p
        rw [h1] at h2
        cases fl with
        | next => exact wf_run I Q hs step fin t (k + 1) _ _ h2 hk2 (by omega)
        | ret r => exact h2
    · have : k = items.length := by omega
      subst this
      rw [List.getElem?_eq_none (Nat.le_refl _)]
      exact fin _ _ h

theorem ww_run {test : Loc → Store → Option (Bool × Store)} {one : Loc → Store → Option (Fl × Loc × Store)} (I : Nat → Loc → Store → Prop) (Q : Fl → Loc → Store → Prop)
    (step : ∀ m ρ σ, I m ρ σ → W2 (test ρ σ) fun b σ1 => if b then W3 (one ρ σ1) (fun fl ρ' σ' => (match fl with | .next => ∃ m', m' < m ∧ I m' ρ' σ' | .ret v => Q (.ret v) ρ' σ')) else Q .next ρ σ1) :
    ∀ (t m : Nat) (ρ : Loc) (σ : Store), I m ρ σ → m < t → WW test one t ρ σ Q
  | 0, m, ρ, σ, h, ht => absurd ht (by omega)
  | t + 1, m, ρ, σ, h, ht => by
    unfold WW
    simp only [whileLoop]
    have h2 := step m ρ σ h
    cases h1 : test ρ σ with
    | none => rw [h1] at h2; exact h2.elim
    | some p =>
      obtain ⟨b, σ1⟩ := p
      rw [h1] at h2
      cases b with
      | true =>
        have h3 : W3 (one ρ σ1) (fun fl ρ' σ' => (match fl with | .next => ∃ m', m' < m ∧ I m' ρ' σ' | .ret v => Q (.ret v) ρ' σ')) := h2
        dsimp only
        cases h4 : one ρ σ1 with
        | none => rw [h4] at h3; exact h3.elim
        | some p =>
          obtain ⟨fl, ρ2, σ2⟩ := p
          rw [h4] at h3
          cases fl with
          | next =>
            obtain ⟨m', hm, h5⟩ := h3
            exact ww_run I Q step t m' ρ2 σ2 h5 (by omega)
          | ret r => exact h3
      | false => exact h2
end Ab

end
section
set_option maxHeartbeats 1000000
namespace Ab
open PySem

theorem fuel {n m : Nat} (h : m ≤ n) : ∃ q, n = q + m := ⟨n - m, by omega⟩

theorem W2.of {α β : Type} {o : Option (α × β)} {P : α → β → Prop} {a : α} {b : β} (h : o = some (a, b)) (p : P a b) : W2 o P := by rw [h]; exact p
theorem subS {σ : Store} {n : Nat} {kvs : List (List Nat × V)} {l : List Nat} {v : V} (h : σ[n]? = some (.dictS kvs)) (e : lookS l kvs = some v) : subOp σ (.ref n) (.str l) = some v := on_dictS (f := fun kvs => lookS l kvs) h e
theorem seqAt_nat {vs : List V} {k : Nat} {v : V} (e : vs[k]? = some v) : seqAt vs (k : Nat) = some v := (if_pos (Int.natCast_nonneg k)).trans e
theorem subL {σ : Store} {n : Nat} {vs : List V} {k : Nat} {v : V} (h : σ[n]? = some (.list vs)) (hb : vs.length ≤ big) (e : vs[k]? = some v) : subOp σ (.ref n) (.int k) = some v :=
  on_two1 (f := fun vs => if vs.length ≤ big then (if (k : Int) = -1 then vs.getLast? else seqAt vs k) else none) (g := fun kvs => lookI k kvs) h ((if_pos hb).trans ((if_neg (by omega)).trans (seqAt_nat e)))
theorem len50 {α β : Type} {f : α → β} {l : List α} (h : l.length ≤ 50) : (l.map f).length ≤ 100 := by rw [List.length_map]; exact Nat.le_trans h (by decide)
theorem notin1 {a b : Nat} (h : a ≠ b) : a ∉ [b] := fun m => h (List.mem_singleton.mp m)
theorem ble100 {n : Nat} (h : Nat.ble n 100 = true) : n ≤ big := le_big (Nat.le_of_ble_eq_true h)
theorem subT {σ : Store} {vs : List V} {k : Nat} {v : V} (hb : Nat.ble vs.length 100 = true) (e : vs[k]? = some v) : subOp σ (.tup vs) (.int (Int.ofNat k)) = some v :=
  show (if vs.length ≤ big then seqAt vs (Int.ofNat k) else none) = some v from (if_pos (ble100 hb)).trans (seqAt_nat e)
theorem ifT {c : Prop} [Decidable c] {A B : Prop} (h : c) (a : A) : (if c then A else B) := by rw [if_pos h]; exact a
theorem ifF {c : Prop} [Decidable c] {A B : Prop} (h : ¬ c) (b : B) : (if c then A else B) := by rw [if_neg h]; exact b
theorem ifTT {b : Bool} {A B : Prop} (h : b = true) (a : A) : (if b = true then A else B) := by rw [if_pos h]; exact a
theorem ifTF {b : Bool} {A B : Prop} (h : b = false) (p : B) : (if b = true then A else B) := by rw [if_neg (by rw [h]; decide)]; exact p
theorem ifFT {b : Bool} {A B : Prop} (h : b = true) (p : B) : (if b = false then A else B) := by rw [if_neg (by rw [h]; decide)]; exact p
theorem ifFF {b : Bool} {A B : Prop} (h : b = false) (a : A) : (if b = false then A else B) := by rw [if_pos h]; exact a
theorem truB (b : Bool) : truthy (.bool b) = some b := rfl
/-- a str of the text -/
noncomputable def okS (l : List Nat) : Bool := decide (l.length ≤ 100) && l.all fun c => decide (c < 200)
theorem okS_pure {l : List Nat} (h : okS l = true) (n : Nat) : V.pure n (.str l) = true := by
  simp only [okS, Bool.and_eq_true, decide_eq_true_eq, List.all_eq_true] at h
  have h1 : l.length ≤ big := le_big h.1
  have h2 : (l.all fun c => decide (c < 55296)) = true := by
    rw [List.all_eq_true]; intro c hc; have := h.2 c hc; exact decide_eq_true (by omega)
  show (decide (l.length ≤ big) && l.all fun c => decide (c < 55296)) = true
  rw [h2, decide_eq_true h1]; rfl
theorem eqV_flat {σ : Store} {a b : V} (h : ∀ i, a ≠ .ref i) (ha : V.pure 40 a = true) (hb : V.pure 40 b = true) : eqV σ a b = some (V.beq a b) := by
  have key : (if V.pure 40 a && V.pure 40 b then some (V.beq a b) else none) = some (V.beq a b) := by rw [ha, hb]; rfl
  cases a with
  | ref i => exact absurd rfl (h i)
  | _ => exact key
theorem eqS {σ : Store} {a b : List Nat} {r : Bool} (h : (okS a && okS b) = true) (e : (a == b) = r) : cmpOp σ .Eq (.str a) (.str b) = some (.bool r) := by
  simp only [Bool.and_eq_true] at h
  show (eqV σ (.str a) (.str b)).map V.bool = _
  rw [eqV_flat (by intro i e; cases e) (okS_pure h.1 _) (okS_pure h.2 _), ← e]; rfl
theorem inS {σ : Store} {a b c : List Nat} {r : Bool} (h : (okS a && okS b && okS c) = true) (e : (b == a || c == a) = r) : cmpOp σ .In (.str a) (.tup [.str b, .str c]) = some (.bool r) := by
  simp only [Bool.and_eq_true] at h
  show (if (V.pure 0 (.str a) && (V.pure 0 (.str b) && (V.pure 0 (.str c) && true)) && true) = true then some (b == a || (c == a || false)) else none).map V.bool = _
  rw [okS_pure h.1.1, okS_pure h.1.2, okS_pure h.2, Bool.or_false, e]; rfl
theorem eqI {σ : Store} (a b : Int) : cmpOp σ .Eq (.int a) (.int b) = some (.bool (a == b)) := rfl
theorem isiOk {v : V} {t : Ty} {b : Bool} (h : isiOp v t = some b) : isiOp v t = some b := h
theorem lenT {σ : Store} {vs : List V} (hb : Nat.ble vs.length 100 = true) : biOp σ .len [.tup vs] = some (.int vs.length, σ) :=
  show (if vs.length ≤ big then some (V.int vs.length, σ) else none) = _ from if_pos (ble100 hb)
theorem fromT {vs : List V} {k : Nat} (h : (Nat.ble 1 k && Nat.ble k vs.length && Nat.ble vs.length 100) = true) : fromOp (.tup vs) (.int (Int.ofNat k)) = some (.tup (vs.drop k)) := by
  simp only [Bool.and_eq_true, Nat.ble_eq, and_assoc] at h
  have h1 : (1 : Int) ≤ (Int.ofNat k) := Int.ofNat_le.mpr h.1
  exact show (if (1 : Int) ≤ Int.ofNat k ∧ k ≤ vs.length ∧ vs.length ≤ big then some (V.tup (vs.drop k)) else none) = _ from if_pos ⟨h1, h.2.1, le_big h.2.2⟩
theorem uptoT {σ : Store} {vs : List V} {k : Nat} (h : (Nat.ble 1 k && Nat.ble (k + 1) vs.length && Nat.ble vs.length 100) = true) : uptoOp σ (.tup vs) (.int (Int.ofNat k)) = some (.tup (vs.take k), σ) := by
  simp only [Bool.and_eq_true, Nat.ble_eq, and_assoc] at h
  have h1 : (1 : Int) ≤ (Int.ofNat k) := Int.ofNat_le.mpr h.1
  exact show (if (1 : Int) ≤ Int.ofNat k ∧ k < vs.length ∧ vs.length ≤ big then some (V.tup (vs.take k), σ) else none) = _ from if_pos ⟨h1, h.2.1, le_big h.2.2⟩
theorem addT {vs ws : List V} (h : (Nat.ble 1 vs.length && Nat.ble 1 ws.length && Nat.ble (vs.length + ws.length) 100) = true) : binOp .Add (.tup vs) (.tup ws) = some (.tup (vs ++ ws)) := by
  simp only [Bool.and_eq_true, Nat.ble_eq, and_assoc] at h
  cases vs with
  | nil => cases h.1
  | cons a vs => cases ws with
    | nil => cases h.2.1
    | cons b ws => exact show (if (false || false || decide (big < (a :: vs).length + (b :: ws).length)) = true then none else some (V.tup (a :: vs ++ b :: ws))) = _ from by rw [decide_eq_false (not_big h.2.2)]; rfl

theorem gtI {σ : Store} (a b : Int) : cmpOp σ .Gt (.int a) (.int b) = some (.bool (decide (b < a))) := rfl
theorem ltI {σ : Store} (a b : Int) : cmpOp σ .Lt (.int a) (.int b) = some (.bool (decide (a < b))) := rfl
theorem leI {σ : Store} (a b : Int) : cmpOp σ .LtE (.int a) (.int b) = some (.bool (decide (a ≤ b))) := rfl
theorem uptoS {σ : Store} {l : List Nat} (h : okS l = true) : uptoOp σ (.str l) (.int (Int.ofNat 1)) = some (.str (l.take 1), σ) := by
  simp only [okS, Bool.and_eq_true, decide_eq_true_eq] at h
  exact show (if (Int.ofNat 1) = 1 ∧ l.length ≤ big then some (V.str (l.take 1), σ) else none) = _ from if_pos ⟨rfl, le_big h.1⟩

theorem mulI {x y : Int} (hx : small x = true) (hy : small y = true) : binOp .Mult (.int x) (.int y) = some (.int (x * y)) := by
  show (if (small x && small y) = true then some (V.int (x * y)) else none) = _
  rw [hx, hy]; rfl
theorem addI (x y : Int) : binOp .Add (.int x) (.int y) = some (.int (x + y)) := rfl
theorem subI (x y : Int) : binOp .Sub (.int x) (.int y) = some (.int (x - y)) := rfl
theorem fdivI {x : Int} (hx : small x = true) : binOp .FloorDiv (.int x) (.int (Int.ofNat 2)) = some (.int (Int.fdiv x (Int.ofNat 2))) := by
  show (if (true && small x && true) = true then some (V.int (Int.fdiv x (Int.ofNat 2))) else none) = _
  rw [hx]; rfl

theorem listT {σ : Store} {vs : List V} (hb : Nat.ble vs.length 100 = true) : biOp σ .list [.tup vs] = some (.ref σ.length, σ ++ [.list vs]) :=
  show (if vs.length ≤ big then some (V.ref σ.length, σ ++ [Cell.list vs]) else none) = _ from if_pos (ble100 hb)
theorem tupleL {σ : Store} {j : Nat} {vs : List V} (h : σ[j]? = some (.list vs)) (hb : vs.length ≤ 100) : biOp σ .tuple [.ref j] = some (.tup vs, σ) :=
  on_list (f := fun vs => if vs.length ≤ big then some (V.tup vs, σ) else none) h (if_pos (le_big hb))
theorem lenL {σ : Store} {j : Nat} {vs : List V} (h : σ[j]? = some (.list vs)) (hb : vs.length ≤ 100) : biOp σ .len [.ref j] = some (.int vs.length, σ) :=
  on_list (f := fun vs => if vs.length ≤ big then some (V.int vs.length, σ) else none) h (if_pos (le_big hb))

local macro_rules | `(tactic| walk_at "ABS") => `(tactic| first | (with_reducible first | refine we_of ?_ | refine wes_of ?_ | refine wxs_of ?_ | refine wx_of ?_ | refine wa_cons ?_ | refine wa_one ?_ | refine wk_cons ?_ | refine wk_nil ?_) | ((with_reducible refine' lo_of ?h ?_); (case h => first | exact rfl | assumption)))
local macro_rules | `(tactic| walk_at "ABH") => `(tactic| ((repeat walk_at "ABS"); try (with_reducible first | show WO _ _ | show W2 _ _ | show WC _ _ _ _ _ | show WM _ _ _ _ _ _ _ | show WF _ _ _ _ _ _ _ | show WL _ _ _ _ _ _ _ | show WW _ _ _ _ _ _ | show ite _ _ _)))
local macro_rules | `(tactic| walk_at "ABE") => `(tactic| repeat (first | walk_at "ABS" | (((with_reducible refine' ifTT ?h ?_); (case h => rfl))) | (((with_reducible refine' ifTF ?h ?_); (case h => rfl))) | (((with_reducible refine' ifFT ?h ?_); (case h => rfl))) | (((with_reducible refine' ifFF ?h ?_); (case h => rfl))) | (with_reducible refine wo_of (truB _) ?_) | (((with_reducible show WO (subOp _ _ _) _); first | refine wo_of (subT (by rfl) (by rfl)) ?_)) | (((with_reducible show WO (cmpOp _ _ _ _) _); first | with_reducible refine wo_of (eqI _ _) ?_ | with_reducible refine wo_of (gtI _ _) ?_ | with_reducible refine wo_of (ltI _ _) ?_ | with_reducible refine wo_of (leI _ _) ?_ | refine wo_of (eqS (by rfl) (by rfl)) ?_ | refine wo_of (inS (by rfl) (by rfl)) ?_)) | (((with_reducible show WO (isiOp _ _) _); first | refine wo_of (isiOk (by rfl)) ?_)) | (((with_reducible show WO (binOp _ _ _) _); first | with_reducible refine wo_of (addI _ _) ?_ | with_reducible refine wo_of (subI _ _) ?_ | refine wo_of (addT (by rfl)) ?_)) | (((with_reducible show WO (fromOp _ _) _); first | refine wo_of (fromT (by rfl)) ?_)) | (((with_reducible show W2 (uptoOp _ _ _) _); first | refine w2_of (uptoS (by rfl)) ?_ | refine w2_of (uptoT (by rfl)) ?_)) | (((with_reducible show W2 (biOp _ _ _) _); first | refine w2_of (lenT (by rfl)) ?_))))
/-- the drawing's state: its cell i, the script's cell r, k drawn -/
structure Feed (i r k : Nat) (σ : Store) : Prop where
  cell : σ[i]? = some (.dictS [([114, 111, 119], .ref r), ([97, 116], .int k)])
  row : ∃ l : List Int, σ[r]? = some (.list (l.map .int)) ∧ l.length ≤ 50 ∧ ∀ x ∈ l, 0 ≤ x
  few : k < 1000
  ne : i ≠ r

theorem feed_pick {n i r k : Nat} {m : Int} {σ : Store} {P : V → Store → Prop} (hn : 20 ≤ n) (F : Feed i r k σ) (hm : 0 < m)
    (q : ∀ x : Nat, (x : Int) < m → P (.int x) (σ.set i (.dictS [([114, 111, 119], .ref r), ([97, 116], .int (k + 1 : Nat))]))) : WC n 0 [.ref i, .int m] σ P := by
  obtain ⟨n, rfl⟩ := fuel hn
  obtain ⟨hc, ⟨l, hl, hl2, hl3⟩, hk, hne⟩ := F
  have hi : i < σ.length := (List.getElem?_eq_some_iff.mp hc).1
  refine wc_step fn0.2 rfl ?_
  dsimp only [fn0]
  walk_at "ABH"
  have hb : big = 4096 := rfl
  walk_at "ABH"
  refine wo_of (subS hc rfl) ?_
  walk_at "ABH"
  refine wo_of (addI _ _) ?_
  walk_at "ABH"
  have e1 : setItemOp σ (V.ref i) (V.str [97, 116]) (V.int ((k : Int) + Int.ofNat 1)) = some (σ.set i (.dictS [([114, 111, 119], .ref r), ([97, 116], .int (k + 1 : Nat))])) := by
    exact on_dictS (f := fun kvs => if kvs.length ≤ big then some (σ.set i (.dictS (putS [97, 116] (V.int ((k : Int) + Int.ofNat 1)) kvs))) else none) hc rfl
  walk_at "ABH"
  refine wo_of e1 ?_
  walk_at "ABH"
  have hc' : (σ.set i (.dictS [([114, 111, 119], .ref r), ([97, 116], .int (k + 1 : Nat))]))[i]? = some (.dictS [([114, 111, 119], .ref r), ([97, 116], .int (k + 1 : Nat))]) := List.getElem?_set_self hi
  have hl' : (σ.set i (.dictS [([114, 111, 119], .ref r), ([97, 116], .int (k + 1 : Nat))]))[r]? = some (.list (l.map .int)) := by rw [List.getElem?_set_ne hne]; exact hl
  generalize (σ.set i (.dictS [([114, 111, 119], .ref r), ([97, 116], .int (k + 1 : Nat))])) = σ1 at hc' hl' q ⊢
  walk_at "ABH"
  refine wo_of (subS hc' rfl) ?_
  walk_at "ABH"
  refine w2_of (lenL hl' (by rw [List.length_map]; omega)) ?_
  walk_at "ABH"
  refine wo_of (a := V.bool (decide ((k : Int) < ((l.map V.int).length : Nat)))) rfl ?_
  walk_at "ABH"
  rw [List.length_map]
  walk_at "ABH"
  refine wo_of rfl ?_
  walk_at "ABH"
  have fin : ∀ y : Int, 0 ≤ y → WO (binOp Operator.Mod (.int y) (V.int m)) fun c => P c σ1 := fun y hy => by
    walk_at "ABH"
    refine wo_of (a := .int (Int.fmod y m)) (show (if 0 < m then some (V.int (Int.fmod y m)) else none) = _ from if_pos hm) ?_
    walk_at "ABH"
    have h1 := Int.fmod_nonneg_of_pos y hm
    have h2 := Int.fmod_lt_of_pos y hm
    obtain ⟨x, hx⟩ := Int.eq_ofNat_of_zero_le h1
    rw [hx] at h2 ⊢
    exact q x h2
  by_cases hlt : (k : Int) < l.length
  · walk_at "ABH"
    refine ifTT (decide_eq_true hlt) ?_
    walk_at "ABH"
    refine wo_of (subS hc' rfl) ?_
    walk_at "ABH"
    have hkl : k < l.length := by omega
    walk_at "ABH"
    refine wo_of (subL (v := .int l[k]) hl' (by simp; omega) (by simp [hkl])) ?_
    walk_at "ABH"
    exact fin _ (hl3 _ (List.getElem_mem hkl))
  · walk_at "ABH"
    refine ifTF (decide_eq_false hlt) ?_
    walk_at "ABH"
    have hs : small (k : Int) = true := by
      simp only [small, decide_eq_true_eq]; omega
    have h6 : small (Int.ofNat 6) = true := by
      simp only [small, decide_eq_true_eq]
      have : (Int.ofNat 6 : Int) = 6 := rfl
      omega
    have e6 := mulI h6 hs
    have e7 := mulI hs hs
    walk_at "ABH"
    refine wo_of e6 ?_
    walk_at "ABH"
    refine wo_of e7 ?_
    walk_at "ABH"
    have hs2 : small ((k : Int) * k) = true := by
      have h1 : (k : Int) * k ≤ 1000 * 1000 := Int.mul_le_mul (by omega) (by omega) (by omega) (by omega)
      have h2 : 0 ≤ (k : Int) * k := Int.mul_nonneg (by omega) (by omega)
      simp only [small, decide_eq_true_eq]; omega
    walk_at "ABH"
    refine wo_of (fdivI hs2) ?_
    walk_at "ABH"
    refine wo_of (addI _ _) ?_
    walk_at "ABH"
    refine wo_of (addI _ _) ?_
    walk_at "ABH"
    refine fin _ ?_
    walk_at "ABH"
    have h3 : 0 ≤ Int.fdiv ((k : Int) * k) (Int.ofNat 2) := Int.fdiv_nonneg (Int.mul_nonneg (by omega) (by omega)) (by decide)
    have h4 : (Int.ofNat 6 : Int) = 6 := rfl
    have h5 : (Int.ofNat 2 : Int) = 2 := rfl
    rw [h5] at h3 ⊢
    rw [h4]
    omega

/-- terms -/
inductive Tm where
  | a | b
  | g1 (t : Tm)
  | g2 (t u : Tm)
  deriving DecidableEq
noncomputable def Tm.v : Tm → V
  | .a => .tup [.str [97]]
  | .b => .tup [.str [98]]
  | .g1 t => .tup [.str [103], t.v]
  | .g2 t u => .tup [.str [103], t.v, u.v]
noncomputable def Tm.w : Tm → Nat
  | .a => 1
  | .b => 1
  | .g1 t => 1 + t.w
  | .g2 t u => 1 + (t.w + u.w)
/-- rows -/
inductive Rw where
  | same
  | told (u : Bool)
  | turn (n : Nat)
  | join (n m : Nat)
  | un1 (n : Nat)
  | un2 (n m : Nat)
  deriving DecidableEq
noncomputable def Rw.over : Rw → List Nat
  | .same => []
  | .told _ => []
  | .turn n => [n]
  | .join n m => [n, m]
  | .un1 n => [n]
  | .un2 n m => [n, m]
noncomputable abbrev intsV (l : List Nat) : List V := l.map fun i => .int (i : Nat)
noncomputable def Rw.v : Rw → V
  | .same => .tup [.str [115, 97, 109, 101], .tup [.str [97]]]
  | .told u => .tup [.str [116, 111, 108, 100], .str [if u then 117 else 116]]
  | .turn n => .tup [.str [116, 117, 114, 110], .int n]
  | .join n m => .tup [.str [106, 111, 105, 110], .int n, .int m]
  | .un1 n => .tup [.str [117, 110, 100, 101, 114], .str [103], .tup [.int n]]
  | .un2 n m => .tup [.str [117, 110, 100, 101, 114], .str [103], .tup [.int n, .int m]]
noncomputable def Rw.ren (f : Nat → Nat) : Rw → Rw
  | .same => .same
  | .told u => .told u
  | .turn n => .turn (f n)
  | .join n m => .join (f n) (f m)
  | .un1 n => .un1 (f n)
  | .un2 n m => .un2 (f n) (f m)

theorem made_of_ok {n : Nat} {r : Rw} {σ : Store} {P : V → Store → Prop} (hn : 20 ≤ n) (q : P (.tup (intsV r.over)) σ) : WC n 9 [r.v] σ P := by
  obtain ⟨n, rfl⟩ := fuel hn
  refine wc_step fn9.2 rfl ?_
  dsimp only [fn9]
  walk_at "ABH"
  cases r with
  | same => walk_at "ABE"; exact q
  | told u => walk_at "ABE"; exact q
  | turn n => walk_at "ABE"; exact q
  | join n m => walk_at "ABE"; exact q
  | un1 n => walk_at "ABE"; exact q
  | un2 n m => walk_at "ABE"; exact q

theorem over_ok {n : Nat} {r : Rw} {σ : Store} {P : V → Store → Prop} (hn : 20 ≤ n) (q : P (.ref σ.length) (σ ++ [.list (intsV r.over)])) : WC n 4 [r.v] σ P := by
  obtain ⟨n, rfl⟩ := fuel hn
  refine wc_step fn4.2 rfl ?_
  dsimp only [fn4]
  walk_at "ABH"
  cases r with
  | same => walk_at "ABE"; exact q
  | told u => walk_at "ABE"; exact q
  | turn n => walk_at "ABE"; refine w2_of (listT (by rfl)) ?_; exact q
  | join n m => walk_at "ABE"; refine w2_of (listT (by rfl)) ?_; exact q
  | un1 n => walk_at "ABE"; refine w2_of (listT (by rfl)) ?_; exact q
  | un2 n m => walk_at "ABE"; refine w2_of (listT (by rfl)) ?_; exact q

theorem remade_ok {n : Nat} {r : Rw} {f : Nat → Nat} {j : Nat} {σ : Store} {P : V → Store → Prop} (hn : 20 ≤ n) (h : σ[j]? = some (.list (intsV (r.over.map f)))) (q : P (r.ren f).v σ) : WC n 10 [r.v, .ref j] σ P := by
  obtain ⟨n, rfl⟩ := fuel hn
  refine wc_step fn10.2 rfl ?_
  dsimp only [fn10]
  walk_at "ABH"
  cases r with
  | same => walk_at "ABE"; exact q
  | told u => walk_at "ABE"; exact q
  | turn n => walk_at "ABE"; refine w2_of (tupleL h (Nat.le_of_ble_eq_true (by rfl))) ?_; walk_at "ABE"; exact q
  | join n m => walk_at "ABE"; refine w2_of (tupleL h (Nat.le_of_ble_eq_true (by rfl))) ?_; walk_at "ABE"; exact q
  | un1 n => walk_at "ABE"; refine w2_of (tupleL h (Nat.le_of_ble_eq_true (by rfl))) ?_; walk_at "ABE"; exact q
  | un2 n m => walk_at "ABE"; refine w2_of (tupleL h (Nat.le_of_ble_eq_true (by rfl))) ?_; walk_at "ABE"; exact q


/-! stores -/
/-- cells stay, but those of S -/
noncomputable def Gr (S : List Nat) (σ σ' : Store) : Prop := σ.length ≤ σ'.length ∧ ∀ j, j < σ.length → j ∉ S → σ'[j]? = σ[j]?
theorem Gr.refl {S : List Nat} {σ : Store} : Gr S σ σ := ⟨Nat.le_refl _, fun _ _ _ => rfl⟩
theorem Gr.trans {S : List Nat} {σ σ1 σ2 : Store} (x : Gr S σ σ1) (y : Gr S σ1 σ2) : Gr S σ σ2 :=
  ⟨Nat.le_trans x.1 y.1, fun j h hs => (y.2 j (Nat.lt_of_lt_of_le h x.1) hs).trans (x.2 j h hs)⟩
theorem Gr.mono {S T : List Nat} {σ σ' : Store} (x : Gr S σ σ') (h : ∀ j ∈ S, j ∈ T ∨ σ.length ≤ j) : Gr T σ σ' :=
  ⟨x.1, fun j hj ht => x.2 j hj fun hs => (h j hs).elim ht fun q => Nat.lt_irrefl _ (Nat.lt_of_lt_of_le hj q)⟩
theorem Gr.none {S : List Nat} {σ σ' : Store} (x : Gr [] σ σ') : Gr S σ σ' := x.mono (by simp)
/-- a change of what was not there at the start -/
theorem Gr.hide {S T : List Nat} {σ σ1 σ2 : Store} (x : Gr S σ σ1) (y : Gr T σ1 σ2) (h : ∀ j ∈ T, j ∈ S ∨ σ.length ≤ j) : Gr S σ σ2 :=
  ⟨Nat.le_trans x.1 y.1, fun j hj hs => (y.2 j (Nat.lt_of_lt_of_le hj x.1) fun ht => (h j ht).elim hs fun q => Nat.lt_irrefl _ (Nat.lt_of_lt_of_le hj q)).trans (x.2 j hj hs)⟩
theorem Gr.app {S : List Nat} {σ t : Store} : Gr S σ (σ ++ t) := ⟨by simp, fun j h _ => List.getElem?_append_left h⟩
theorem Gr.set {σ : Store} {j : Nat} {c : Cell} : Gr [j] σ (σ.set j c) := ⟨by simp, fun i _ hi => by simp at hi; rw [List.getElem?_set_ne (Ne.symm hi)]⟩
theorem Gr.get {S : List Nat} {σ σ' : Store} (x : Gr S σ σ') {j : Nat} {c : Cell} (h : σ[j]? = some c) (hs : j ∉ S) : σ'[j]? = some c := by
  rw [x.2 j (List.getElem?_eq_some_iff.mp h).1 hs, h]
theorem getEnd {σ : Store} {c : Cell} : (σ ++ [c])[σ.length]? = some c := by simp
theorem setEnd {σ : Store} {c c' : Cell} : (σ ++ [c]).set σ.length c' = σ ++ [c'] := by simp
theorem lt_of_get {σ : Store} {j : Nat} {c : Cell} (h : σ[j]? = some c) : j < σ.length := (List.getElem?_eq_some_iff.mp h).1
theorem getSet {σ : Store} {j : Nat} {c c' : Cell} (h : σ[j]? = some c) : (σ.set j c')[j]? = some c' := List.getElem?_set_self (lt_of_get h)

theorem wm_list {n k m : Nat} {vs us ws : List V} {σ1 σ2 σ' : Store} {v : V} {P : V → Store → Prop} (h1 : σ1[k]? = some (.list us)) (h2 : σ2[k]? = some (.list ws)) (h3 : listOp σ2 k ws m vs = some (v, σ')) (p : P v σ') :
    WM n (.ref k) m vs σ1 σ2 P := by
  unfold WM mth
  (try dsimp only)
  rw [h1, h2]
  exact w2_of h3 p
theorem wm_obj {n k c m f : Nat} {vs : List V} {fs : List (Nat × V)} {σ1 σ2 : Store} {P : V → Store → Prop} (h1 : σ1[k]? = some (.inst fs)) (h2 : ((lookA m fs).isNone && decide (c < 2)) = true) (h3 : methOf c m = some f) (p : WC n f (.obj k c :: vs) σ2 P) :
    WM n (.obj k c) m vs σ1 σ2 P := by
  unfold WM mth
  (try dsimp only)
  rw [h1]
  (try dsimp only)
  rw [if_pos h2, h3]
  exact p
theorem popL {σ : Store} {k : Nat} {ws : List V} {v : V} (hb : ws.length ≤ 100) (h : ws.getLast? = some v) : listOp σ k ws 45 [] = some (v, σ.set k (.list ws.dropLast)) := by
  show (if big < ws.length then none else match ws.getLast? with | some x => some (x, σ.set k (.list ws.dropLast)) | none => none) = _
  rw [if_neg (not_big hb), h]
theorem appL {σ : Store} {k : Nat} {ws : List V} {v : V} (hb : ws.length ≤ 100) : listOp σ k ws 44 [v] = some (.none, σ.set k (.list (ws ++ [v]))) :=
  show (if big < ws.length then none else some (V.none, σ.set k (.list (ws ++ [v])))) = _ from if_neg (not_big hb)
theorem extL {σ : Store} {k : Nat} {ws us : List V} (hb : ws.length ≤ 100) (hu : us.length ≤ 100) : listOp σ k ws 46 [.tup us] = some (.none, σ.set k (.list (ws ++ us))) :=
  show (if big < ws.length then none else if us.length ≤ big then some (V.none, σ.set k (.list (ws ++ us))) else none) = _ from (if_neg (not_big hb)).trans (if_pos (le_big hu))

/-- a while loop's lap -/
noncomputable abbrev lapOf (f : Loc → Store → Prop) (Q : Fl → Loc → Store → Prop) : Fl → Loc → Store → Prop
  | .next, ρ, σ => f ρ σ
  | .ret v, ρ, σ => Q (.ret v) ρ σ
noncomputable abbrev kLap2 (n : Nat) (b : List PS) (ρ : Loc) (σ : Store) (f : Loc → Store → Prop) (Q : Fl → Loc → Store → Prop) : Bool → Prop := fun c => if c then WXs n b ρ σ (lapOf f Q) else Q .next ρ σ
noncomputable abbrev kLap (n : Nat) (b : List PS) (ρ : Loc) (f : Loc → Store → Prop) (Q : Fl → Loc → Store → Prop) : V → Store → Prop := fun a σ => WO (truthy a) (kLap2 n b ρ σ f Q)
noncomputable abbrev wwF (n m : Nat) (t : PE) (b : List PS) (Q : Fl → Loc → Store → Prop) : Loc → Store → Prop := fun ρ σ => WW (whTest n t) (execs (exec n) b) m ρ σ Q
theorem ww_lap {n m : Nat} {t : PE} {b : List PS} {ρ : Loc} {σ : Store} {Q : Fl → Loc → Store → Prop} (h : WE n t ρ σ (kLap n b ρ (wwF n m t b Q) Q)) : WW (whTest n t) (execs (exec n) b) (m + 1) ρ σ Q := by
  have h : W2 (ev n t ρ σ) (kLap n b ρ (wwF n m t b Q) Q) := h
  unfold WW whileLoop whTest
  cases h1 : ev n t ρ σ with
  | none => rw [h1] at h; exact h
  | some p =>
    rw [h1] at h
    obtain ⟨a, σ1⟩ := p
    have h : WO (truthy a) (kLap2 n b ρ σ1 (wwF n m t b Q) Q) := h
    dsimp only [one?]
    cases h2 : truthy a with
    | none => rw [h2] at h; exact h
    | some c =>
      rw [h2] at h
      cases c with
      | false => exact h
      | true =>
        have h : W3 (execs (exec n) b ρ σ1) (lapOf (wwF n m t b Q) Q) := h
        dsimp only [Option.map_some]
        cases h3 : execs (exec n) b ρ σ1 with
        | none => rw [h3] at h; exact h
        | some p =>
          rw [h3] at h
          obtain ⟨fl, ρ2, σ2⟩ := p
          cases fl with
          | next => exact h
          | ret v => exact h

theorem plain_ok {n c : Nat} {σ : Store} {P : V → Store → Prop} (hn : 30 ≤ n) (hc : c = 97 ∨ c = 103) (q : P (.bool true) (σ ++ [.list []])) : WC n 7 [.tup [.str [c]]] σ P := by
  obtain ⟨n, rfl⟩ := fuel hn
  refine wc_step fn7.2 rfl ?_
  dsimp only [fn7]
  walk_at "ABH"
  refine ww_lap (m := 69) ?_
  walk_at "ABH"
  rcases hc with rfl | rfl
  all_goals
    walk_at "ABH"
    refine w2_of (lenL getEnd (by simp)) ?_
    walk_at "ABH"
    walk_at "ABE"
    walk_at "ABH"
    refine wm_list getEnd getEnd (popL (by simp) rfl) ?_
    walk_at "ABH"
    (try dsimp only)
    rw [setEnd]
    walk_at "ABE"
    walk_at "ABH"
    refine wm_list getEnd getEnd (extL (by simp) (by simp)) ?_
    walk_at "ABH"
    (try dsimp only)
    rw [setEnd]
    refine ww_lap (m := 68) ?_
    walk_at "ABH"
    walk_at "ABH"
    refine w2_of (lenL getEnd (by simp)) ?_
    walk_at "ABH"
    walk_at "ABE"
    exact q

theorem bool_not (b : Bool) : truthy (.bool b) = some b := rfl
/-- a row has its form -/
theorem form_ok {n : Nat} {r : Rw} {σ : Store} {P : V → Store → Prop} (hn : 60 ≤ n) (q : ∀ σ', Gr [] σ σ' → P (.bool true) σ') : WC n 8 [r.v] σ P := by
  obtain ⟨n, rfl⟩ := fuel hn
  refine wc_step fn8.2 rfl ?_
  dsimp only [fn8]
  walk_at "ABH"
  cases r with
  | same => walk_at "ABE"; exact plain_ok (by omega) (.inl rfl) (q _ Gr.app)
  | told u => walk_at "ABE"; exact q _ Gr.refl
  | turn n => walk_at "ABE"; exact q _ Gr.refl
  | join n m => walk_at "ABE"; exact q _ Gr.refl
  | un1 n => walk_at "ABE"; refine plain_ok (by omega) (.inr rfl) ?_; walk_at "ABE"; exact q _ Gr.app
  | un2 n m => walk_at "ABE"; refine plain_ok (by omega) (.inr rfl) ?_; walk_at "ABE"; exact q _ Gr.app


theorem pure_tup {n : Nat} {vs : List V} (h : vs.length ≤ 100) (p : V.pures n vs = true) : V.pure (n + 1) (.tup vs) = true := by
  show (decide (vs.length ≤ big) && V.pures n vs) = true
  rw [p, decide_eq_true (le_big h)]; rfl
theorem Tm.pos (t : Tm) : 1 ≤ t.w := by cases t <;> simp [Tm.w] <;> omega
theorem Tm.pure (t : Tm) : ∀ n, t.w ≤ n → V.pure n t.v = true := by
  induction t with
  | a => intro n h; obtain ⟨n, rfl⟩ := fuel (m := 1) (by simpa [Tm.w] using h); exact pure_tup (by simp) (by simp [V.pures, okS_pure (l := [97]) rfl])
  | b => intro n h; obtain ⟨n, rfl⟩ := fuel (m := 1) (by simpa [Tm.w] using h); exact pure_tup (by simp) (by simp [V.pures, okS_pure (l := [98]) rfl])
  | g1 t ih =>
    intro n h
    simp only [Tm.w] at h
    obtain ⟨n, rfl⟩ := fuel (m := 1) (n := n) (by omega)
    exact pure_tup (by simp) (by simp [V.pures, okS_pure (l := [103]) rfl, ih n (by omega)])
  | g2 t u ih ih2 =>
    intro n h
    simp only [Tm.w] at h
    obtain ⟨n, rfl⟩ := fuel (m := 1) (n := n) (by omega)
    exact pure_tup (by simp) (by simp [V.pures, okS_pure (l := [103]) rfl, ih n (by omega), ih2 n (by omega)])
theorem Tm.beq (t : Tm) : ∀ u : Tm, V.beq t.v u.v = decide (t = u) := by
  induction t with
  | a => intro u; cases u <;> simp [Tm.v, V.beq, V.beqs]
  | b => intro u; cases u <;> simp [Tm.v, V.beq, V.beqs]
  | g1 t ih => intro u; cases u <;> simp [Tm.v, V.beq, V.beqs, ih]
  | g2 t u ih ih2 => intro z; cases z <;> simp [Tm.v, V.beq, V.beqs, ih, ih2]
theorem eqV_pure {σ : Store} {a b : V} (ha : V.pure 40 a = true) (hb : V.pure 40 b = true) : eqV σ a b = some (V.beq a b) :=
  eqV_flat (by rintro i rfl; cases ha) ha hb
theorem eqT {σ : Store} {t u : Tm} (ht : t.w ≤ 40) (hu : u.w ≤ 40) : cmpOp σ .Eq t.v u.v = some (.bool (decide (t = u))) := by
  show (eqV σ t.v u.v).map V.bool = _
  rw [eqV_pure (t.pure 40 ht) (u.pure 40 hu), t.beq u]; rfl
theorem neT {σ : Store} {t u : Tm} (ht : t.w ≤ 40) (hu : u.w ≤ 40) : cmpOp σ .NotEq t.v u.v = some (.bool (!decide (t = u))) := by
  show (eqV σ t.v u.v).map (fun x => V.bool (!x)) = _
  rw [eqV_pure (t.pure 40 ht) (u.pure 40 hu), t.beq u]; rfl

/-- two sides as a value -/
noncomputable def pv (p : Tm × Tm) : V := .tup [p.1.v, p.2.v]
/-- what the judge reckons of a row -/
noncomputable def sd : Rw → List (Tm × Tm) → Option (Tm × Tm)
  | .same, [] => some (.a, .a)
  | .told u, [] => some (if u then (.b, .g1 .a) else (.a, .b))
  | .turn _, [p] => some (p.2, p.1)
  | .join _ _, [p, q] => if p.2 = q.1 then some (p.1, q.2) else none
  | .un1 _, [p] => some (.g1 p.1, .g1 p.2)
  | .un2 _ _, [p, q] => some (.g2 p.1 q.1, .g2 p.2 q.2)
  | _, _ => none

theorem subL0 {σ : Store} {n : Nat} {vs : List V} {k : Nat} {v : V} (h : σ[n]? = some (.list vs)) (hb : Nat.ble vs.length 100 = true) (e : vs[k]? = some v) : subOp σ (.ref n) (.int (Int.ofNat k)) = some v :=
  subL h (by have := Nat.le_of_ble_eq_true hb; have : big = 4096 := rfl; omega) e
theorem attrO {σ : Store} {k c a : Nat} {fs : List (Nat × V)} {v : V} (h : σ[k]? = some (.inst fs)) (hc : c < 2) (e : lookA a fs = some v) : attrOp σ (.obj k c) a = some v :=
  show (if c < 2 then (match σ[k]? with | some (.inst fs) => lookA a fs | _ => none) else none) = _ from (if_pos hc).trans (on_inst (f := lookA a) h e)
theorem notInTold {σ : Store} {l : List Nat} {b : Bool} (h : (lookS l toldTab).isSome = b) : cmpOp σ .NotIn (.str l) .told = some (.bool (!b)) := by rw [← h]; rfl
theorem subTold {σ : Store} {l : List Nat} {v : V} (h : lookS l toldTab = some v) : subOp σ .told (.str l) = some v := h

/-- the judge's own cell -/
noncomputable def JudgeAt (σ : Store) (k : Nat) : Prop := ∃ d, σ[k]? = some (.inst [(42, .ref d), (43, .told)])

theorem told_sides_ok {n kj : Nat} {u : Bool} {pl : V} {σ : Store} {P : V → Store → Prop} (hn : 20 ≤ n) (J : JudgeAt σ kj) (q : P (pv (if u then (.b, .g1 .a) else (.a, .b))) σ) :
    WC n 14 [.obj kj 0, .str [if u then 117 else 116], pl] σ P := by
  obtain ⟨n, rfl⟩ := fuel hn
  obtain ⟨d, J⟩ := J
  refine wc_step fn14.2 rfl ?_
  dsimp only [fn14]
  walk_at "ABH"
  refine wo_of (attrO J (by decide) (by rfl)) ?_
  walk_at "ABH"
  cases u with
  | true =>
    walk_at "ABH"
    refine wo_of (notInTold (by rfl)) ?_
    walk_at "ABH"
    walk_at "ABE"
    walk_at "ABH"
    refine wo_of (attrO J (by decide) (by rfl)) ?_
    walk_at "ABH"
    refine wo_of (subTold (by rfl)) ?_
    walk_at "ABH"
    exact q
  | false =>
    walk_at "ABH"
    refine wo_of (notInTold (by rfl)) ?_
    walk_at "ABH"
    walk_at "ABE"
    walk_at "ABH"
    refine wo_of (attrO J (by decide) (by rfl)) ?_
    walk_at "ABH"
    refine wo_of (subTold (by rfl)) ?_
    walk_at "ABH"
    exact q

theorem src_list {σ : Store} {j : Nat} {vs : List V} (h : σ[j]? = some (.list vs)) (hb : vs.length ≤ 100) : Src (.ref j) vs σ := fun k =>
  on_list (f := fun vs => if vs.length ≤ big then some vs[k]? else none) h (if_pos (le_big hb))
theorem src_tup {σ : Store} {vs : List V} (hb : vs.length ≤ 100) : Src (.tup vs) vs σ := fun k =>
  show (if vs.length ≤ big then some vs[k]? else none) = _ from if_pos (le_big hb)

/-- a comprehension whose parts change nothing -/
theorem wl_map {n : Nat} {src : V} {x : Nat} {el : PE} {ρ : Loc} {σ : Store} {items ws : List V} {P : List V → Store → Prop} (hs : Src src items σ) (hl : items.length ≤ 60) (hw : ws.length = items.length)
    (step : ∀ (k : Nat) (v : V), items[k]? = some v → WE n el (upd ρ x v) σ fun w σ' => σ' = σ ∧ ws[k]? = some w) (q : P ws σ) :
    WL src (compOne n ρ el x []) laps 0 [] σ P := by
  refine wl_run (items := items) (fun k acc σ' => σ' = σ ∧ acc = ws.take k) P (fun k acc σ' h => by rw [h.1]; exact hs) (fun k acc σ' v h hv => ?_) (fun acc σ' h => ?_) laps 0 [] σ ⟨rfl, by simp⟩ (Nat.zero_le _) (by have : laps = 70 := rfl; omega)
  walk_at "ABH"
  · obtain ⟨rfl, rfl⟩ := h
    have := step k v hv
    unfold WE at this
    simp only [compOne, evIfs, one?, if_true]
    cases e : ev n el (upd ρ x v) σ' with
    | none => rw [e] at this; exact this.elim
    | some p =>
      obtain ⟨w, σ2⟩ := p
      rw [e] at this
      obtain ⟨rfl, h2⟩ := this
      show σ2 = σ2 ∧ _
      refine ⟨rfl, ?_⟩
      walk_at "ABH"
      rw [List.take_add_one, h2]; rfl
  · obtain ⟨rfl, rfl⟩ := h
    rw [← hw, List.take_length]; exact q

theorem sides_of_ok {n kj j : Nat} {r : Rw} {pl : V} {ts : List (Tm × Tm)} {p : Tm × Tm} {σ : Store} {P : V → Store → Prop} (hn : 60 ≤ n) (J : JudgeAt σ kj) (hj : σ[j]? = some (.list (ts.map pv))) (hw : ∀ p ∈ ts, p.1.w ≤ 40 ∧ p.2.w ≤ 40)
    (hsd : sd r ts = some p) (q : ∀ σ', Gr [] σ σ' → P (pv p) σ') : WC n 15 [.obj kj 0, r.v, pl, .ref j] σ P := by
  obtain ⟨n, rfl⟩ := fuel hn
  refine wc_step fn15.2 rfl ?_
  dsimp only [fn15]
  walk_at "ABH"
  cases r with
  | same =>
    cases ts with
    | nil => simp only [sd] at hsd; cases hsd; walk_at "ABE"; exact q _ Gr.refl
    | cons _ _ => simp [sd] at hsd
  | told u =>
    cases ts with
    | cons _ _ => simp [sd] at hsd
    | nil =>
      simp only [sd] at hsd
      cases hsd
      walk_at "ABE"
      obtain ⟨d, hd⟩ := id J
      walk_at "ABH"
      refine wm_obj (f := 14) hd (by rfl) (by rfl) (told_sides_ok (u := u) (by omega) J ?_)
      walk_at "ABH"
      exact q _ Gr.refl
  | turn m =>
    cases ts with
    | nil => simp [sd] at hsd
    | cons t ts =>
      cases ts with
      | cons _ _ => simp [sd] at hsd
      | nil =>
        simp only [sd] at hsd
        cases hsd
        walk_at "ABE"
        walk_at "ABH"
        refine wo_of (subL0 (v := pv t) hj (by rfl) (by rfl)) ?_
        walk_at "ABH"
        walk_at "ABE"
        walk_at "ABH"
        refine wo_of (subL0 (v := pv t) hj (by rfl) (by rfl)) ?_
        walk_at "ABH"
        walk_at "ABE"
        exact q _ Gr.refl
  | join m m2 =>
    cases ts with
    | nil => simp [sd] at hsd
    | cons t ts =>
      cases ts with
      | nil => simp [sd] at hsd
      | cons t2 ts =>
        cases ts with
        | cons _ _ => simp [sd] at hsd
        | nil =>
          simp only [sd] at hsd
          split at hsd
          · rename_i he
            cases hsd
            walk_at "ABE"
            walk_at "ABH"
            refine wo_of (subL0 (v := pv t) hj (by rfl) (by rfl)) ?_
            walk_at "ABH"
            walk_at "ABE"
            walk_at "ABH"
            refine wo_of (subL0 (k := 1) (v := pv t2) hj (by rfl) (by rfl)) ?_
            walk_at "ABH"
            walk_at "ABE"
            walk_at "ABH"
            refine wo_of (neT (hw t (by simp)).2 (hw t2 (by simp)).1) ?_
            walk_at "ABH"
            rw [decide_eq_true he]
            walk_at "ABE"
            walk_at "ABH"
            refine wo_of (subL0 (v := pv t) hj (by rfl) (by rfl)) ?_
            walk_at "ABH"
            walk_at "ABE"
            walk_at "ABH"
            refine wo_of (subL0 (k := 1) (v := pv t2) hj (by rfl) (by rfl)) ?_
            walk_at "ABH"
            walk_at "ABE"
            exact q _ Gr.refl
          · cases hsd
  | un1 m =>
    cases ts with
    | nil => simp [sd] at hsd
    | cons t ts =>
      cases ts with
      | cons _ _ => simp [sd] at hsd
      | nil =>
        simp only [sd] at hsd
        cases hsd
        walk_at "ABE"
        walk_at "ABH"
        refine wl_map (items := [t].map pv) (ws := [t].map fun p => p.1.v) (src_list hj (by simp)) (by simp) (by simp) (fun k v hk => ?_) ?_
        walk_at "ABH"
        · rw [List.getElem?_map, Option.map_eq_some_iff] at hk
          obtain ⟨p, hk, rfl⟩ := hk
          walk_at "ABH"
          refine wo_of (subT (v := p.1.v) (by rfl) (by rfl)) ?_
          walk_at "ABH"
          exact ⟨by trivial, by rw [List.getElem?_map, hk]; rfl⟩
        walk_at "ABH"
        refine w2_of (tupleL getEnd (by simp)) ?_
        walk_at "ABH"
        walk_at "ABE"
        have hj2 : (σ ++ [Cell.list ([t].map fun p => p.1.v)])[j]? = some (.list ([t].map pv)) := (Gr.app (S := [])).get hj (by simp)
        walk_at "ABH"
        refine wl_map (items := [t].map pv) (ws := [t].map fun p => p.2.v) (src_list hj2 (by simp)) (by simp) (by simp) (fun k v hk => ?_) ?_
        walk_at "ABH"
        · rw [List.getElem?_map, Option.map_eq_some_iff] at hk
          obtain ⟨p, hk, rfl⟩ := hk
          walk_at "ABH"
          refine wo_of (subT (v := p.2.v) (by rfl) (by rfl)) ?_
          walk_at "ABH"
          exact ⟨by trivial, by rw [List.getElem?_map, hk]; rfl⟩
        walk_at "ABH"
        refine w2_of (tupleL getEnd (by simp)) ?_
        walk_at "ABH"
        walk_at "ABE"
        exact q _ (Gr.app.trans Gr.app)
  | un2 m m2 =>
    cases ts with
    | nil => simp [sd] at hsd
    | cons t ts =>
      cases ts with
      | nil => simp [sd] at hsd
      | cons t2 ts =>
        cases ts with
        | cons _ _ => simp [sd] at hsd
        | nil =>
        simp only [sd] at hsd
        cases hsd
        walk_at "ABE"
        walk_at "ABH"
        refine wl_map (items := [t, t2].map pv) (ws := [t, t2].map fun p => p.1.v) (src_list hj (by simp)) (by simp) (by simp) (fun k v hk => ?_) ?_
        walk_at "ABH"
        · rw [List.getElem?_map, Option.map_eq_some_iff] at hk
          obtain ⟨p, hk, rfl⟩ := hk
          walk_at "ABH"
          refine wo_of (subT (v := p.1.v) (by rfl) (by rfl)) ?_
          walk_at "ABH"
          exact ⟨by trivial, by rw [List.getElem?_map, hk]; rfl⟩
        walk_at "ABH"
        refine w2_of (tupleL getEnd (by simp)) ?_
        walk_at "ABH"
        walk_at "ABE"
        have hj2 : (σ ++ [Cell.list ([t, t2].map fun p => p.1.v)])[j]? = some (.list ([t, t2].map pv)) := (Gr.app (S := [])).get hj (by simp)
        walk_at "ABH"
        refine wl_map (items := [t, t2].map pv) (ws := [t, t2].map fun p => p.2.v) (src_list hj2 (by simp)) (by simp) (by simp) (fun k v hk => ?_) ?_
        walk_at "ABH"
        · rw [List.getElem?_map, Option.map_eq_some_iff] at hk
          obtain ⟨p, hk, rfl⟩ := hk
          walk_at "ABH"
          refine wo_of (subT (v := p.2.v) (by rfl) (by rfl)) ?_
          walk_at "ABH"
          exact ⟨by trivial, by rw [List.getElem?_map, hk]; rfl⟩
        walk_at "ABH"
        refine w2_of (tupleL getEnd (by simp)) ?_
        walk_at "ABH"
        walk_at "ABE"
        exact q _ (Gr.app.trans Gr.app)

/-- want_row has nothing to say -/
theorem want_ok {n j k : Nat} {slf : V} {rs : List Rw} {r : Rw} {σ : Store} {P : V → Store → Prop} (hn : 100 ≤ n) (hj : σ[j]? = some (.list (rs.map Rw.v))) (hl : rs.length ≤ 60) (hr : rs[k]? = some r) (ho : ∀ m ∈ r.over, m < k)
    (q : ∀ σ', Gr [] σ σ' → P .none σ') : WC n 17 [slf, .ref j, .int k] σ P := by
  obtain ⟨n, rfl⟩ := fuel hn
  refine wc_step fn17.2 rfl ?_
  dsimp only [fn17]
  have hrv : (rs.map Rw.v)[k]? = some r.v := by rw [List.getElem?_map, hr]; rfl
  have hb : (rs.map Rw.v).length ≤ big := by rw [List.length_map]; have : big = 4096 := rfl; omega
  walk_at "ABH"
  refine wo_of (subL hj hb hrv) ?_
  walk_at "ABH"
  refine form_ok (by omega) fun σ1 g1 => ?_
  walk_at "ABH"
  walk_at "ABE"
  walk_at "ABH"
  refine wo_of (subL (g1.get hj (by simp)) hb hrv) ?_
  walk_at "ABH"
  refine made_of_ok (by omega) ?_
  walk_at "ABH"
  have hol : r.over.length ≤ 2 := by cases r <;> simp [Rw.over]
  walk_at "ABH"
  refine wf_run (items := intsV r.over) (fun i ρ' σ' => σ' = σ1 ∧ ρ' 36 = some (.int k)) _ (fun i ρ' σ' h => src_tup (by simp; omega)) (fun i ρ' σ' v h hv => ?_) (fun ρ' σ' h => ?_) laps 0 _ σ1 ⟨rfl, by simp [upd, bindAll]⟩ (Nat.zero_le _) (by have : laps = 70 := rfl; simp; omega)
  walk_at "ABH"
  · obtain ⟨rfl, hk⟩ := h
    rw [List.getElem?_map, Option.map_eq_some_iff] at hv
    obtain ⟨m, hv, rfl⟩ := hv
    have hm := ho m (List.mem_of_getElem? hv)
    show WXs _ _ _ _ _
    walk_at "ABH"
    walk_at "ABE"
    rw [decide_eq_true (show (m : Int) < (k : Int) from by omega)]
    walk_at "ABE"
    exact ⟨by trivial, by trivial⟩
  · obtain ⟨rfl, _⟩ := h
    walk_at "ABH"
    exact q _ g1


theorem rangeN {σ : Store} {n : Nat} (h : n ≤ 100) : biOp σ .range [.int (n : Nat)] = some (.rng 0 (n : Nat) 1, σ) := by
  have h1 : small (n : Int) = true := by simp only [small, decide_eq_true_eq]; omega
  exact show (if small (n : Int) = true then some (V.rng 0 (n : Nat) 1, σ) else none) = _ from if_pos h1
theorem src_rng {σ : Store} {n : Nat} (h : n ≤ 100) : Src (.rng 0 (n : Nat) 1) (intsV (List.range n)) σ := fun k => by
  have h1 : small (n : Int) = true := by simp only [small, decide_eq_true_eq]; omega
  have h0 : small 0 = true := by simp only [small, decide_eq_true_eq]; omega
  have h2 : rngLen 0 (n : Int) 1 = n := by simp [rngLen]
  show (if ((decide ((1 : Int) = 1) || decide ((1 : Int) = -1)) && small 0 && small n) = true then some (if k < rngLen 0 n 1 then some (V.int (0 + (k : Int) * 1)) else none) else none) = _
  rw [h0, h1, h2, if_pos (by rfl)]
  by_cases hk : k < n
  · simp [hk]
  · simp [hk]

theorem range_get {n k : Nat} {v : V} (h : (intsV (List.range n))[k]? = some v) : k < n ∧ v = .int (k : Nat) := by
  rw [List.getElem?_map, Option.map_eq_some_iff] at h
  obtain ⟨m, h1, rfl⟩ := h
  obtain ⟨h2, h3⟩ := List.getElem?_eq_some_iff.mp h1
  simp at h2 h3
  subst h3
  exact ⟨h2, rfl⟩

/-- each row is over rows ahead of it -/
noncomputable def Val (rs : List Rw) : Prop := ∀ (k : Nat) (r : Rw), rs[k]? = some r → ∀ m ∈ r.over, m < k
noncomputable def sat (ss : List (Tm × Tm)) (m : Nat) : Tm × Tm := ss.getD m (.a, .a)
/-- the sides of the rows -/
structure Sd (rs : List Rw) (ss : List (Tm × Tm)) : Prop where
  len : ss.length = rs.length
  at_ : ∀ (k : Nat) (r : Rw), rs[k]? = some r → sd r (r.over.map (sat ss)) = some (sat ss k)
  light : ∀ p ∈ ss, p.1.w ≤ 40 ∧ p.2.w ≤ 40
theorem sat_get {ss : List (Tm × Tm)} {m : Nat} (h : m < ss.length) : ss[m]? = some (sat ss m) := by
  simp [sat, h]
theorem over_few (r : Rw) : r.over.length ≤ 2 := by cases r <;> simp [Rw.over]

noncomputable def LinesAt (σ : Store) (kl kj : Nat) : Prop := σ[kl]? = some (.inst [(38, .obj kj 0)])
theorem JudgeAt.gr {σ σ' : Store} {k : Nat} (h : JudgeAt σ k) (g : Gr [] σ σ') : JudgeAt σ' k := by obtain ⟨d, h⟩ := h; exact ⟨d, g.get h (by simp)⟩

theorem sides_ok {n j kl kj : Nat} {rs : List Rw} {ss : List (Tm × Tm)} {σ : Store} {P : V → Store → Prop} (hn : 140 ≤ n) (hL : LinesAt σ kl kj) (hJ : JudgeAt σ kj) (hj : σ[j]? = some (.list (rs.map Rw.v))) (hl : rs.length ≤ 50) (hv : Val rs) (S : Sd rs ss)
    (q : ∀ σ' L, Gr [] σ σ' → σ.length ≤ L → σ'[L]? = some (.list (ss.map pv)) → P (.ref L) σ') : WC n 18 [.obj kl 1, .ref j] σ P := by
  obtain ⟨n, rfl⟩ := fuel hn
  refine wc_step fn18.2 rfl ?_
  dsimp only [fn18]
  have hb : (rs.map Rw.v).length ≤ big := by rw [List.length_map]; have : big = 4096 := rfl; omega
  have hlen := S.len
  walk_at "ABH"
  have hj0 : (σ ++ [Cell.list []])[j]? = some (.list (rs.map Rw.v)) := (Gr.app (S := [])).get hj (by simp)
  walk_at "ABH"
  refine w2_of (lenL hj0 (by simp; omega)) ?_
  walk_at "ABH"
  rw [List.length_map]
  walk_at "ABH"
  refine w2_of (rangeN (n := rs.length) (by omega)) ?_
  walk_at "ABH"
  (try dsimp only)
  walk_at "ABH"
  refine wf_run (items := intsV (List.range rs.length)) (fun k ρ' σ' => Gr [] σ σ' ∧ σ'[σ.length]? = some (.list ((ss.take k).map pv)) ∧ ρ' 37 = some (.obj kl 1) ∧ ρ' 16 = some (.ref j) ∧ ρ' 19 = some (.ref σ.length)) _
    (fun k ρ' σ' h => src_rng (by omega)) (fun k ρ' σ' v h hv2 => ?_) (fun ρ' σ' h => ?_) laps 0 _ _ ⟨Gr.app, by simp, by simp [upd, bindAll], by simp [upd, bindAll], by simp [upd, bindAll]⟩ (Nat.zero_le _) (by have : laps = 70 := rfl; simp; omega)
  walk_at "ABH"
  · obtain ⟨g, hf, h37, h16, h19⟩ := h
    obtain ⟨hkl, rfl⟩ := range_get hv2
    obtain ⟨r, hr⟩ : ∃ r, rs[k]? = some r := ⟨_, List.getElem?_eq_getElem hkl⟩
    have hrv : (rs.map Rw.v)[k]? = some r.v := by rw [List.getElem?_map, hr]; rfl
    have hvo := hv k r hr
    show WXs _ _ _ _ _
    walk_at "ABH"
    refine wm_obj (f := 17) (g.get hL (by simp)) (by rfl) (by rfl) (want_ok (by omega) (g.get hj (by simp)) (by omega) hr hvo fun σ1 g1 => ?_)
    walk_at "ABH"
    have hj1 := (g.trans g1).get hj (by simp)
    have hf1 := g1.get hf (by simp)
    walk_at "ABH"
    refine wo_of (subL hj1 hb hrv) ?_
    walk_at "ABH"
    refine made_of_ok (by omega) ?_
    walk_at "ABH"
    have hof := over_few r
    walk_at "ABH"
    refine wl_map (items := intsV r.over) (ws := r.over.map fun m => pv (sat ss m)) (src_tup (by simp; omega)) (by simp; omega) (by simp) (fun i v hi => ?_) ?_
    walk_at "ABH"
    · rw [List.getElem?_map, Option.map_eq_some_iff] at hi
      obtain ⟨m, hi, rfl⟩ := hi
      have hm := hvo m (List.mem_of_getElem? hi)
      walk_at "ABH"
      refine wo_of (subL (v := pv (sat ss m)) hf1 (by have : big = 4096 := rfl; simp; omega) ?_) ?_
      walk_at "ABH"
      · rw [List.getElem?_map, List.getElem?_take_of_lt hm, sat_get (by omega)]; rfl
      · exact ⟨by trivial, by rw [List.getElem?_map, hi]; rfl⟩
    have g2 : Gr [] σ1 (σ1 ++ [Cell.list (r.over.map fun m => pv (sat ss m))]) := Gr.app
    have gg := (g.trans g1).trans g2
    walk_at "ABH"
    refine wo_of (attrO (gg.get hL (by simp)) (by decide) (by rfl)) ?_
    walk_at "ABH"
    refine wo_of (subL (gg.get hj (by simp)) hb hrv) ?_
    walk_at "ABH"
    obtain ⟨d, hd⟩ := id (hJ.gr gg)
    walk_at "ABH"
    refine wm_obj (f := 15) hd (by rfl) (by rfl) ?_
    walk_at "ABH"
    refine sides_of_ok (ts := r.over.map (sat ss)) (p := sat ss k) (by omega) (hJ.gr gg) (by rw [List.map_map]; exact getEnd) (fun p hp => ?_) (S.at_ k r hr) fun σ3 g3 => ?_
    walk_at "ABH"
    · obtain ⟨m, hm, rfl⟩ := List.mem_map.mp hp
      exact S.light _ (List.mem_of_getElem? (sat_get (by have := hvo m hm; omega)))
    have hf2 := g2.get hf1 (by simp)
    have hf3 := g3.get hf2 (by simp)
    walk_at "ABH"
    refine wm_list hf2 hf3 (appL (by simp; omega)) ?_
    walk_at "ABH"
    refine ⟨(gg.trans g3).hide Gr.set (by simp), ?_, by simp [upd, bindAll, h37], by simp [upd, bindAll, h16], by simp [upd, bindAll, h19]⟩
    walk_at "ABH"
    rw [getSet hf3]
    congr 2
    rw [List.take_add_one, sat_get (by omega)]
    simp
  · obtain ⟨g, hf, h37, h16, h19⟩ := h
    walk_at "ABH"
    refine q _ _ g (Nat.le_refl _) ?_
    walk_at "ABH"
    rw [hf, List.take_of_length_le (by simp [hlen])]

theorem proved_ok {n j kl kj : Nat} {rs : List Rw} {ss : List (Tm × Tm)} {σ : Store} {P : V → Store → Prop} (hn : 160 ≤ n) (hL : LinesAt σ kl kj) (hJ : JudgeAt σ kj) (hj : σ[j]? = some (.list (rs.map Rw.v))) (hl : rs.length ≤ 50) (h0 : 1 ≤ rs.length) (hv : Val rs) (S : Sd rs ss)
    (q : ∀ v σ', Gr [] σ σ' → P v σ') : WC n 19 [.obj kl 1, .ref j] σ P := by
  obtain ⟨n, rfl⟩ := fuel hn
  refine wc_step fn19.2 rfl ?_
  dsimp only [fn19]
  walk_at "ABH"
  refine w2_of (lenL hj (by simp; omega)) ?_
  walk_at "ABH"
  refine wo_of (eqI _ _) ?_
  walk_at "ABH"
  refine wo_of (truB _) ?_
  walk_at "ABH"
  refine ifTF ?_ ?_
  walk_at "ABH"
  · rw [List.length_map, beq_eq_false_iff_ne]; have : (Int.ofNat 0 : Int) = 0 := rfl; omega
  walk_at "ABH"
  refine wm_obj (f := 18) hL (by rfl) (by rfl) (sides_ok (by omega) hL hJ hj hl hv S fun σ' L g _ _ => q _ _ g)


noncomputable def rget (rs : List Rw) (d : Nat) : Rw := rs.getD d .same
theorem rget_get {rs : List Rw} {d : Nat} {r : Rw} (h : rs[d]? = some r) : rget rs d = r := by simp [rget, h]
/-- the rows that are asked for, each behind all that it is over -/
structure Clo (rs : List Rw) (ds : List Nat) : Prop where
  nodup : ds.Nodup
  at_ : ∀ (k d : Nat), ds[k]? = some d → d < rs.length ∧ ∀ x ∈ (rget rs d).over, x ∈ ds.take k
noncomputable def fresh (rs : List Rw) (ds : List Nat) : List Rw := ds.map fun d => (rget rs d).ren ds.idxOf

theorem idx_cast (x : Nat) : ∀ ds : List Nat, (ds.map fun (i : Nat) => (i : Int)).idxOf (x : Int) = ds.idxOf x
  | [] => rfl
  | d :: ds => by
    have ih := idx_cast x ds
    rw [List.map_cons, List.idxOf_cons, List.idxOf_cons, ih]
    by_cases h : d = x
    · subst h; simp
    · have h2 : ¬ ((d : Int) = (x : Int)) := by omega
      have e1 : ((d : Int) == (x : Int)) = false := by simpa using h2
      have e2 : (d == x) = false := by simpa using h
      rw [e1, e2]
theorem allInts_ints (ds : List Nat) : allInts (intsV ds) = some (ds.map fun (i : Nat) => (i : Int)) := by
  induction ds with
  | nil => rfl
  | cons d ds ih => show allInts (.int (d : Nat) :: intsV ds) = _; simp only [allInts, ih]; rfl
theorem idxL {σ : Store} {k x : Nat} {ds : List Nat} (hb : ds.length ≤ 100) (h : x ∈ ds) : listOp σ k (intsV ds) 47 [.int (x : Nat)] = some (.int (ds.idxOf x : Nat), σ) := by
  have hb' : ¬ big < (intsV ds).length := by have : big = 4096 := rfl; simp; omega
  have hm : (x : Int) ∈ ds.map fun (i : Nat) => (i : Int) := List.mem_map.mpr ⟨x, h, rfl⟩
  show (if big < (intsV ds).length then none else match allInts (intsV ds) with | some l => if (x : Int) ∈ l then some (V.int (l.idxOf (x : Int)), σ) else none | none => none) = _
  rw [if_neg hb', allInts_ints]
  exact (if_pos hm).trans (by rw [idx_cast x ds])
theorem ren_over (r : Rw) (f : Nat → Nat) : (r.ren f).over = r.over.map f := by cases r <;> rfl
theorem pures_ints (n : Nat) (l : List Nat) : V.pures n (intsV l) = true := by
  induction l with
  | nil => rfl
  | cons a l ih => show V.pures n (.int (a : Nat) :: intsV l) = true; simp only [V.pures, ih, Bool.and_true]; cases n <;> rfl
theorem ne_empty {σ : Store} {l : List Nat} (hl : l.length ≤ 100) : cmpOp σ .NotEq (.tup (intsV l)) (.tup []) = some (.bool (!l.isEmpty)) := by
  have h1 : V.pure 40 (.tup (intsV l)) = true := pure_tup (by simp; omega) (pures_ints _ _)
  have h2 : V.pure 40 (.tup []) = true := pure_tup (by simp) rfl
  show (eqV σ _ _).map (fun x => V.bool (!x)) = _
  rw [eqV_pure h1 h2]
  cases l <;> rfl

theorem anew_ok {n j m : Nat} {rs : List Rw} {ds : List Nat} {σ : Store} {P : V → Store → Prop} (hn : 100 ≤ n) (hj : σ[j]? = some (.list (rs.map Rw.v))) (hl : rs.length ≤ 50) (hm : σ[m]? = some (.list (intsV ds))) (hd : ds.length ≤ 50) (C : Clo rs ds)
    (q : ∀ σ' L, Gr [] σ σ' → σ.length ≤ L → σ'[L]? = some (.list ((fresh rs ds).map Rw.v)) → P (.ref L) σ') : WC n 6 [.ref j, .ref m] σ P := by
  obtain ⟨n, rfl⟩ := fuel hn
  refine wc_step fn6.2 rfl ?_
  dsimp only [fn6]
  have hb : (rs.map Rw.v).length ≤ big := by rw [List.length_map]; have : big = 4096 := rfl; omega
  walk_at "ABH"
  have hm0 : (σ ++ [Cell.list []])[m]? = some (.list (intsV ds)) := (Gr.app (S := [])).get hm (by simp)
  walk_at "ABH"
  refine wf_run (items := intsV ds) (fun k ρ' σ' => Gr [] σ σ' ∧ σ'[σ.length]? = some (.list (((fresh rs ds).take k).map Rw.v)) ∧ ρ' 16 = some (.ref j) ∧ ρ' 11 = some (.ref m) ∧ ρ' 19 = some (.ref σ.length)) _
    (fun k ρ' σ' h => src_list (h.1.get hm (by simp)) (by simp; omega)) (fun k ρ' σ' v h hv2 => ?_) (fun ρ' σ' h => ?_) laps 0 _ _ ⟨Gr.app, by simp, by simp [upd, bindAll], by simp [upd, bindAll], by simp [upd, bindAll]⟩ (Nat.zero_le _) (by have : laps = 70 := rfl; simp; omega)
  walk_at "ABH"
  · obtain ⟨g, hf, h16, h11, h19⟩ := h
    rw [List.getElem?_map, Option.map_eq_some_iff] at hv2
    obtain ⟨d, hk, rfl⟩ := hv2
    obtain ⟨hdl, hdo⟩ := C.at_ k d hk
    obtain ⟨r, hr⟩ : ∃ r, rs[d]? = some r := ⟨_, List.getElem?_eq_getElem hdl⟩
    rw [rget_get hr] at hdo
    have hrv : (rs.map Rw.v)[d]? = some r.v := by rw [List.getElem?_map, hr]; rfl
    have hof := over_few r
    have hsub : ∀ x ∈ r.over, x ∈ ds := fun x hx => List.mem_of_mem_take (hdo x hx)
    show WXs _ _ _ _ _
    walk_at "ABH"
    refine wo_of (subL (g.get hj (by simp)) hb hrv) ?_
    walk_at "ABH"
    refine over_ok (by omega) ?_
    walk_at "ABH"
    refine wl_map (items := intsV r.over) (ws := intsV (r.over.map ds.idxOf)) (src_list getEnd (by simp; omega)) (by simp; omega) (by simp) (fun i v hi => ?_) ?_
    walk_at "ABH"
    · rw [List.getElem?_map, Option.map_eq_some_iff] at hi
      obtain ⟨x, hi, rfl⟩ := hi
      walk_at "ABH"
      have hx := (g.trans (Gr.app (t := [Cell.list (intsV r.over)]))).get hm (by simp)
      walk_at "ABH"
      refine wm_list hx hx (idxL (by omega) (hsub x (List.mem_of_getElem? hi))) ?_
      walk_at "ABH"
      exact ⟨by trivial, by simp [hi]⟩
    walk_at "ABH"
    refine w2_of (tupleL getEnd (by simp; omega)) ?_
    walk_at "ABH"
    (try dsimp only)
    generalize hσ2 : (σ' ++ [Cell.list (intsV r.over)] ++ [Cell.list (intsV (r.over.map ds.idxOf))]) = σ2
    have g2 : Gr [] σ' σ2 := hσ2 ▸ Gr.app.trans Gr.app
    have gg := g.trans g2
    have hj2 := gg.get hj (by simp)
    have hf2 := g2.get hf (by simp)
    walk_at "ABH"
    refine wo_of (subL hj2 hb hrv) ?_
    walk_at "ABH"
    have hkf : (fresh rs ds)[k]? = some (r.ren ds.idxOf) := by
      simp only [fresh, List.getElem?_map, hk, Option.map_some, rget_get hr]
    have done : ∀ (nn : Nat) (v : V) (Pp : V → Store → Prop), v = (r.ren ds.idxOf).v → (∀ σ1, Gr [] σ σ1 → σ1[σ.length]? = some (.list (((fresh rs ds).take (k + 1)).map Rw.v)) → Pp .none σ1) → WM nn (V.ref σ.length) 44 [v] σ2 σ2 Pp := fun nn v Pp hv hp => by
      subst hv
      walk_at "ABH"
      refine wm_list hf2 hf2 (appL (by simp [fresh]; omega)) (hp _ (gg.hide Gr.set (by simp)) ?_)
      walk_at "ABH"
      rw [getSet hf2, List.take_add_one, hkf]
      simp
    cases r with
    | same =>
      walk_at "ABE"
      walk_at "ABH"
      refine wo_of (ne_empty (by simp [Rw.over])) ?_
      walk_at "ABH"
      walk_at "ABE"
      walk_at "ABH"
      refine wo_of (subL hj2 hb hrv) ?_
      walk_at "ABH"
      exact done _ _ _ rfl fun σ1 a b => ⟨a, b, by trivial, by trivial, by trivial⟩
    | told u =>
      walk_at "ABE"
      walk_at "ABH"
      refine wo_of (ne_empty (by simp [Rw.over])) ?_
      walk_at "ABH"
      walk_at "ABE"
      walk_at "ABH"
      refine wo_of (subL hj2 hb hrv) ?_
      walk_at "ABH"
      exact done _ _ _ rfl fun σ1 a b => ⟨a, b, by trivial, by trivial, by trivial⟩
    | turn x =>
      walk_at "ABE"
      walk_at "ABH"
      refine wo_of (ne_empty (by simp [Rw.over])) ?_
      walk_at "ABH"
      walk_at "ABE"
      walk_at "ABH"
      refine wo_of (subL hj2 hb hrv) ?_
      walk_at "ABH"
      walk_at "ABE"
      exact done _ _ _ rfl fun σ1 a b => ⟨a, b, by trivial, by trivial, by trivial⟩
    | join x y =>
      walk_at "ABE"
      walk_at "ABH"
      refine wo_of (ne_empty (by simp [Rw.over])) ?_
      walk_at "ABH"
      walk_at "ABE"
      walk_at "ABH"
      refine wo_of (subL hj2 hb hrv) ?_
      walk_at "ABH"
      walk_at "ABE"
      exact done _ _ _ rfl fun σ1 a b => ⟨a, b, by trivial, by trivial, by trivial⟩
    | un1 x =>
      walk_at "ABE"
      exact done _ _ _ rfl fun σ1 a b => ⟨a, b, by trivial, by trivial, by trivial⟩
    | un2 x y =>
      walk_at "ABE"
      exact done _ _ _ rfl fun σ1 a b => ⟨a, b, by trivial, by trivial, by trivial⟩
  · obtain ⟨g, hf, h16, h11, h19⟩ := h
    walk_at "ABH"
    refine q _ _ g (Nat.le_refl _) ?_
    walk_at "ABH"
    rw [hf, List.take_of_length_le (by simp [fresh])]

theorem lookI_put {k x : Int} {v : V} : ∀ {kvs : List (Int × V)}, lookI x (putI k v kvs) = if k = x then some v else lookI x kvs
  | [] => by simp only [putI, lookI]
  | (a, w) :: r => by
    simp only [putI]
    by_cases h : a = k
    · subst h
      simp only [if_true, lookI]
      by_cases h2 : a = x
      · simp [h2]
      · simp [h2]
    · simp only [if_neg h, lookI, lookI_put (kvs := r)]
      by_cases h2 : a = x
      · subst h2
        simp [Ne.symm h]
      · simp [h2]
theorem putI_length {k : Int} {v : V} : ∀ {kvs : List (Int × V)}, (putI k v kvs).length ≤ kvs.length + 1
  | [] => by simp [putI]
  | (a, w) :: r => by
    have := putI_length (k := k) (v := v) (kvs := r)
    simp only [putI]; split <;> simp <;> omega
theorem subD {σ : Store} {n : Nat} {kvs : List (Int × V)} {k : Int} {v : V} (h : σ[n]? = some (.dictI kvs)) (e : lookI k kvs = some v) : subOp σ (.ref n) (.int k) = some v :=
  on_two2 (f := fun vs => if vs.length ≤ big then (if (k : Int) = -1 then vs.getLast? else seqAt vs k) else none) (g := fun kvs => lookI k kvs) h e
theorem setD {σ : Store} {n : Nat} {kvs : List (Int × V)} {k : Int} {v : V} (h : σ[n]? = some (.dictI kvs)) (hb : kvs.length ≤ 100) : setItemOp σ (.ref n) (.int k) v = some (σ.set n (.dictI (putI k v kvs))) := by
  exact on_two2 (f := fun vs => if 0 ≤ k ∧ k.toNat < vs.length ∧ vs.length ≤ big then some (σ.set n (.list (vs.set k.toNat v))) else none) (g := fun kvs => if kvs.length ≤ big then some (σ.set n (.dictI (putI k v kvs))) else none) h (if_pos (le_big hb))

theorem numbered_ok {n j m : Nat} {rs : List Rw} {ds : List Nat} {σ : Store} {P : V → Store → Prop} (hn : 100 ≤ n) (hj : σ[j]? = some (.list (rs.map Rw.v))) (hl : rs.length ≤ 50) (hm : σ[m]? = some (.list (intsV ds))) (hd : ds.length ≤ 50) (C : Clo rs ds)
    (q : ∀ σ' L, Gr [] σ σ' → σ.length ≤ L → σ'[L]? = some (.list ((fresh rs ds).map Rw.v)) → P (.ref L) σ') : WC n 11 [.ref j, .ref m] σ P := by
  obtain ⟨n, rfl⟩ := fuel hn
  refine wc_step fn11.2 rfl ?_
  dsimp only [fn11]
  have hb : (rs.map Rw.v).length ≤ big := by rw [List.length_map]; have : big = 4096 := rfl; omega
  walk_at "ABH"
  refine wo_of rfl ?_
  walk_at "ABH"
  have e1 : (σ ++ [Cell.list []]).length = σ.length + 1 := by simp
  rw [e1]
  walk_at "ABH"
  refine wf_run (items := intsV ds) (fun k ρ' σ' => Gr [] σ σ' ∧ σ'[σ.length]? = some (.list (((fresh rs ds).take k).map Rw.v)) ∧ ρ' 16 = some (.ref j) ∧ ρ' 20 = some (.ref (σ.length + 1)) ∧ ρ' 19 = some (.ref σ.length) ∧
      ∃ kvs, σ'[σ.length + 1]? = some (.dictI kvs) ∧ kvs.length ≤ k ∧ ∀ x ∈ ds.take k, lookI (x : Nat) kvs = some (.int (ds.idxOf x : Nat))) _
    (fun k ρ' σ' h => src_list (h.1.get hm (by simp)) (by simp; omega)) (fun k ρ' σ' v h hv2 => ?_) (fun ρ' σ' h => ?_) laps 0 _ _
    ⟨Gr.app.trans Gr.app, by simp, by simp [upd, bindAll], by simp [upd, bindAll], by simp [upd, bindAll], [], by rw [← e1]; exact getEnd, by simp, by simp⟩ (Nat.zero_le _) (by have : laps = 70 := rfl; simp; omega)
  walk_at "ABH"
  · obtain ⟨g, hf, h16, h20, h19, kvs, hkv, hkl, hlook⟩ := h
    rw [List.getElem?_map, Option.map_eq_some_iff] at hv2
    obtain ⟨d, hk, rfl⟩ := hv2
    have hkd : k < ds.length := (List.getElem?_eq_some_iff.mp hk).1
    obtain ⟨hdl, hdo⟩ := C.at_ k d hk
    obtain ⟨r, hr⟩ : ∃ r, rs[d]? = some r := ⟨_, List.getElem?_eq_getElem hdl⟩
    rw [rget_get hr] at hdo
    have hrv : (rs.map Rw.v)[d]? = some r.v := by rw [List.getElem?_map, hr]; rfl
    have hof := over_few r
    have hidx : ds.idxOf d = k := by
      obtain ⟨h1, h2⟩ := List.getElem?_eq_some_iff.mp hk
      rw [← h2]; exact C.nodup.idxOf_getElem k h1
    show WXs _ _ _ _ _
    walk_at "ABH"
    refine w2_of (lenL hf (by simp; omega)) ?_
    walk_at "ABH"
    refine wo_of (setD hkv (by omega)) ?_
    walk_at "ABH"
    (try dsimp only)
    have hfl : (((fresh rs ds).take k).map Rw.v).length = k := by simp [fresh]; omega
    rw [hfl]
    generalize hσ1 : σ'.set (σ.length + 1) (.dictI (putI (d : Nat) (.int (k : Nat)) kvs)) = σ1
    have g1 : Gr [σ.length + 1] σ' σ1 := hσ1 ▸ Gr.set
    have gg : Gr [] σ σ1 := g.hide g1 (by simp)
    have hkv1 : σ1[σ.length + 1]? = some (.dictI (putI (d : Nat) (.int (k : Nat)) kvs)) := hσ1 ▸ getSet hkv
    have hf1 := g1.get hf (by simp)
    walk_at "ABH"
    refine wo_of (subL (gg.get hj (by simp)) hb hrv) ?_
    walk_at "ABH"
    refine wo_of (subL (gg.get hj (by simp)) hb hrv) ?_
    walk_at "ABH"
    refine made_of_ok (by omega) ?_
    walk_at "ABH"
    have hlook1 : ∀ x ∈ ds.take (k + 1), lookI (x : Nat) (putI (d : Nat) (.int (k : Nat)) kvs) = some (.int (ds.idxOf x : Nat)) := fun x hx => by
      rw [lookI_put]
      by_cases h : (d : Int) = (x : Int)
      · have : d = x := by omega
        subst this
        rw [if_pos rfl, hidx]
      · rw [if_neg h]
        rw [List.take_add_one, hk] at hx
        rcases List.mem_append.mp hx with hx | hx
        · exact hlook x hx
        · simp at hx; exact absurd (by rw [hx]) h
    walk_at "ABH"
    refine wl_map (items := intsV r.over) (ws := intsV (r.over.map ds.idxOf)) (src_tup (by simp; omega)) (by simp; omega) (by simp) (fun i v hi => ?_) ?_
    walk_at "ABH"
    · rw [List.getElem?_map, Option.map_eq_some_iff] at hi
      obtain ⟨x, hi, rfl⟩ := hi
      walk_at "ABH"
      have hx := hdo x (List.mem_of_getElem? hi)
      walk_at "ABH"
      refine wo_of (subD hkv1 (hlook1 x (by rw [List.take_add_one]; exact List.mem_append_left _ hx))) ?_
      walk_at "ABH"
      exact ⟨by trivial, by simp [hi]⟩
    walk_at "ABH"
    refine remade_ok (f := ds.idxOf) (by omega) getEnd ?_
    walk_at "ABH"
    have g2 : Gr [] σ1 (σ1 ++ [Cell.list (intsV (r.over.map ds.idxOf))]) := Gr.app
    have hf2 := g2.get hf1 (by simp)
    have hkf : (fresh rs ds)[k]? = some (r.ren ds.idxOf) := by
      simp only [fresh, List.getElem?_map, hk, Option.map_some, rget_get hr]
    walk_at "ABH"
    refine wm_list hf1 hf2 (appL (by simp [fresh]; omega)) ?_
    walk_at "ABH"
    refine ⟨(gg.trans g2).hide Gr.set (by simp), ?_, by trivial, by trivial, by trivial, _, (Gr.set).get (g2.get hkv1 (by simp)) (by simp), ?_, hlook1⟩
    walk_at "ABH"
    · rw [getSet hf2, List.take_add_one, hkf]
      simp
    · have := putI_length (k := (d : Int)) (v := .int (k : Nat)) (kvs := kvs); omega
  · obtain ⟨g, hf, h16, h20, h19, _⟩ := h
    walk_at "ABH"
    refine q _ _ g (Nat.le_refl _) ?_
    walk_at "ABH"
    rw [hf, List.take_of_length_le (by simp [fresh])]


/-- what a row is made of, and what those are made of -/
inductive Rc (rs : List Rw) (last : Nat) : Nat → Prop
  | refl : Rc rs last last
  | step {d m : Nat} : Rc rs last d → m ∈ (rget rs d).over → Rc rs last m
theorem Val.rget {rs : List Rw} (h : Val rs) {d m : Nat} (hm : m ∈ (rget rs d).over) : m < d ∧ d < rs.length := by
  by_cases hd : d < rs.length
  · exact ⟨h d _ (List.getElem?_eq_getElem hd) m (by rw [rget_get (List.getElem?_eq_getElem hd)] at hm; exact hm), hd⟩
  · exfalso
    have : Ab.rget rs d = .same := by simp [Ab.rget, List.getElem?_eq_none (Nat.le_of_not_lt hd)]
    rw [this] at hm
    simp [Rw.over] at hm
theorem Rc.le {rs : List Rw} {last x : Nat} (hv : Val rs) (h : Rc rs last x) : x ≤ last := by
  induction h with
  | refl => exact Nat.le_refl _
  | step _ hm ih => have := (hv.rget hm).1; omega
/-- the sorted reach -/
structure IsRc (rs : List Rw) (last : Nat) (ds : List Nat) : Prop where
  asc : ds.Pairwise (· < ·)
  iff : ∀ x, x ∈ ds ↔ Rc rs last x
theorem IsRc.uniq {rs : List Rw} {last : Nat} {ds es : List Nat} (h : IsRc rs last ds) (g : IsRc rs last es) : ds = es := by
  have hd : ds.Nodup := h.asc.imp (fun a => Nat.ne_of_lt a)
  have he : es.Nodup := g.asc.imp (fun a => Nat.ne_of_lt a)
  have hp : ds.Perm es := (List.perm_ext_iff_of_nodup hd he).mpr fun x => (h.iff x).trans (g.iff x).symm
  exact List.Perm.eq_of_pairwise (le := (· < ·)) (fun a b _ _ h1 h2 => absurd h1 (Nat.lt_asymm h2)) h.asc g.asc hp
theorem asc_index {ds : List Nat} (h : ds.Pairwise (· < ·)) {k d x : Nat} (hk : ds[k]? = some d) (hx : x ∈ ds) (hlt : x < d) : x ∈ ds.take k := by
  obtain ⟨i, hi, rfl⟩ := List.getElem_of_mem hx
  obtain ⟨hk1, hk2⟩ := List.getElem?_eq_some_iff.mp hk
  have : i < k := by
    rcases Nat.lt_trichotomy i k with h1 | h1 | h1
    · exact h1
    · subst h1; rw [hk2] at hlt; exact absurd hlt (Nat.lt_irrefl _)
    · have := (List.pairwise_iff_getElem.mp h) k i hk1 hi h1
      rw [hk2] at this
      exact absurd hlt (Nat.lt_asymm this)
  rw [List.mem_take_iff_getElem]
  exact ⟨i, by omega, rfl⟩
theorem IsRc.clo {rs : List Rw} {last : Nat} {ds : List Nat} (h : IsRc rs last ds) (hv : Val rs) (hl : last < rs.length) : Clo rs ds := by
  refine ⟨h.asc.imp (fun a => Nat.ne_of_lt a), fun k d hk => ?_⟩
  walk_at "ABH"
  have hd := (h.iff d).mp (List.mem_of_getElem? hk)
  have hdl : d < rs.length := by have := hd.le hv; omega
  exact ⟨hdl, fun x hx => asc_index h.asc hk ((h.iff x).mpr (hd.step hx)) (hv.rget hx).1⟩

/-! the law's marks -/
theorem src_down {σ : Store} {last : Nat} (h : last ≤ 60) : Src (.rng (last : Nat) (-1) (-1)) (intsV ((List.range (last + 1)).map fun k => last - k)) σ := fun k => by
  have h1 : small (last : Int) = true := by simp only [small, decide_eq_true_eq]; omega
  have h0 : small (-1) = true := by simp only [small, decide_eq_true_eq]; omega
  have h2 : rngLen (last : Int) (-1) (-1) = last + 1 := by
    have : ¬ ((-1 : Int) = 1) := by decide
    simp only [rngLen, if_neg this]; omega
  show (if ((decide ((-1 : Int) = 1) || decide ((-1 : Int) = -1)) && small last && small (-1)) = true then some (if k < rngLen last (-1) (-1) then some (V.int (last + (k : Int) * -1)) else none) else none) = _
  rw [h0, h1, h2, if_pos (by rfl)]
  by_cases hk : k < last + 1
  · rw [if_pos hk]
    have e : (List.range (last + 1))[k]? = some k := by simp [hk]
    rw [List.getElem?_map, List.getElem?_map, e]
    simp only [Option.map_some]
    congr 3
    omega
  · rw [if_neg hk]
    have e : (List.range (last + 1))[k]? = none := by simp; omega
    rw [List.getElem?_map, List.getElem?_map, e]
    rfl
theorem down_get {last k : Nat} {v : V} (h : (intsV ((List.range (last + 1)).map fun k => last - k))[k]? = some v) : k ≤ last ∧ v = .int (last - k : Nat) := by
  rw [List.getElem?_map, Option.map_eq_some_iff] at h
  obtain ⟨m, h1, rfl⟩ := h
  rw [List.getElem?_map, Option.map_eq_some_iff] at h1
  obtain ⟨m', h1, rfl⟩ := h1
  obtain ⟨h2, h3⟩ := List.getElem?_eq_some_iff.mp h1
  simp at h2 h3
  subst h3
  exact ⟨by omega, rfl⟩
theorem rangeD {σ : Store} {n : Nat} (h : n ≤ 100) : biOp σ .range [.int (n : Nat), .int (-Int.ofNat 1), .int (-Int.ofNat 1)] = some (.rng (n : Nat) (-1) (-1), σ) := by
  have h1 : small (n : Int) = true := by simp only [small, decide_eq_true_eq]; omega
  have h2 : small (-Int.ofNat 1) = true := by simp only [small, decide_eq_true_eq]; decide
  have h3 : (decide ((-Int.ofNat 1 : Int) = 1) || decide ((-Int.ofNat 1 : Int) = -1)) = true := by decide
  show (if (small (n : Int) && small (-Int.ofNat 1) && (decide ((-Int.ofNat 1 : Int) = 1) || decide ((-Int.ofNat 1 : Int) = -1))) = true then some (V.rng n (-Int.ofNat 1) (-Int.ofNat 1), σ) else none) = _
  rw [h1, h2, h3]
  rfl
theorem setLk {σ : Store} {n : Nat} {vs : List V} {k : Nat} {v : V} (h : σ[n]? = some (.list vs)) (hk : k < vs.length) (hb : vs.length ≤ 100) : setItemOp σ (.ref n) (.int (k : Nat)) v = some (σ.set n (.list (vs.set k v))) := by
  exact on_two1 (f := fun vs => if 0 ≤ (k : Int) ∧ k < vs.length ∧ vs.length ≤ big then some (σ.set n (.list (vs.set k v))) else none) (g := fun kvs => if kvs.length ≤ big then some (σ.set n (.dictI (putI k v kvs))) else none) h (if_pos ⟨Int.natCast_nonneg k, hk, le_big hb⟩)

noncomputable abbrev bools (l : List Bool) : List V := l.map V.bool
theorem get_set_true {bs : List Bool} {m x : Nat} (hx : bs[x]? = some true) : (bs.set m true)[x]? = some true := by
  by_cases h : m = x
  · subst h; exact List.getElem?_set_self (List.getElem?_eq_some_iff.mp hx).1
  · rw [List.getElem?_set_ne h]; exact hx

theorem start_get {N last x : Nat} (h : ((List.range N).map fun k => k == last)[x]? = some true) : x = last := by
  rw [List.getElem?_map, Option.map_eq_some_iff] at h
  obtain ⟨m, h1, h2⟩ := h
  obtain ⟨h3, h4⟩ := List.getElem?_eq_some_iff.mp h1
  simp at h4 h2
  omega

/-- a comprehension with a test, whose parts change nothing -/
theorem wl_filter {n : Nat} {src : V} {x : Nat} {c el : PE} {ρ : Loc} {σ : Store} {items : List V} {P : List V → Store → Prop} (p : Nat → Bool) (w : Nat → V) (hs : Src src items σ) (hl : items.length ≤ 60)
    (step1 : ∀ (k : Nat) (v : V), items[k]? = some v → WE n c (upd ρ x v) σ fun b σ' => σ' = σ ∧ b = .bool (p k))
    (step2 : ∀ (k : Nat) (v : V), items[k]? = some v → p k = true → WE n el (upd ρ x v) σ fun u σ' => σ' = σ ∧ u = w k)
    (q : P (((List.range items.length).filter p).map w) σ) :
    WL src (compOne n ρ el x [c]) laps 0 [] σ P := by
  refine wl_run (items := items) (fun k acc σ' => σ' = σ ∧ acc = ((List.range k).filter p).map w) P (fun k acc σ' h => by rw [h.1]; exact hs) (fun k acc σ' v h hv => ?_) (fun acc σ' h => ?_) laps 0 [] σ ⟨rfl, by simp⟩ (Nat.zero_le _) (by have : laps = 70 := rfl; omega)
  walk_at "ABH"
  · obtain ⟨rfl, rfl⟩ := h
    have h1 := step1 k v hv
    unfold WE at h1
    cases e : ev n c (upd ρ x v) σ' with
    | none => rw [e] at h1; exact h1.elim
    | some q1 =>
      obtain ⟨b, σ2⟩ := q1
      rw [e] at h1
      obtain ⟨rfl, rfl⟩ := h1
      cases hp : p k with
      | false =>
        rw [hp] at e
        simp only [compOne, evIfs, e, truthy, one?]
        show σ2 = σ2 ∧ _
        refine ⟨rfl, ?_⟩
        walk_at "ABH"
        rw [List.range_succ, List.filter_append, List.filter_cons_of_neg (by simp [hp]), List.filter_nil, List.append_nil]
      | true =>
        have h2 := step2 k v hv hp
        unfold WE at h2
        rw [hp] at e
        simp only [compOne, evIfs, e, truthy, one?, if_true]
        cases e2 : ev n el (upd ρ x v) σ2 with
        | none => rw [e2] at h2; exact h2.elim
        | some q2 =>
          obtain ⟨u, σ3⟩ := q2
          rw [e2] at h2
          obtain ⟨rfl, rfl⟩ := h2
          show σ3 = σ3 ∧ _
          refine ⟨rfl, ?_⟩
          walk_at "ABH"
          rw [List.range_succ, List.filter_append, List.filter_cons_of_pos (by simp [hp]), List.filter_nil, List.map_append]
          rfl
  · obtain ⟨rfl, rfl⟩ := h
    exact q

inductive MI (rs : List Rw) (last j : Nat) (σ : Store) (k : Nat) (ρ : Loc) (σ' : Store) : Prop
  | mk {bs : List Bool} (g : Gr [] σ σ') (h16 : ρ 16 = some (.ref j)) (h18 : ρ 18 = some (.ref σ.length)) (hbs : σ'[σ.length]? = some (.list (bools bs))) (hbl : bs.length = rs.length) (hbt : bs[last]? = some true) (hs : ∀ x : Nat, bs[x]? = some true → Rc rs last x)
      (hc : ∀ x : Nat, last < x + k → bs[x]? = some true → ∀ m ∈ (rget rs x).over, bs[m]? = some true) : MI rs last j σ k ρ σ'
inductive MJ (rs : List Rw) (last j : Nat) (σ : Store) (L : Nat) (os : List Nat) (z : Nat) (bs : List Bool) (i : Nat) (ρ : Loc) (σ' : Store) : Prop
  | mk {bs2 : List Bool} (g : Gr [] σ σ') (h16 : ρ 16 = some (.ref j)) (h18 : ρ 18 = some (.ref σ.length)) (hsrc : σ'[L]? = some (.list (intsV os))) (hbs : σ'[σ.length]? = some (.list (bools bs2))) (hbl : bs2.length = rs.length) (hup : ∀ x : Nat, bs[x]? = some true → bs2[x]? = some true)
      (hs : ∀ x : Nat, bs2[x]? = some true → Rc rs last x) (htk : ∀ m ∈ os.take i, bs2[m]? = some true) (hab : ∀ x : Nat, z ≤ x → bs2[x]? = bs[x]?) : MJ rs last j σ L os z bs i ρ σ'
theorem MJ.src {rs : List Rw} {last j : Nat} {σ : Store} {L : Nat} {os : List Nat} {z : Nat} {bs : List Bool} {i : Nat} {ρ : Loc} {σ' : Store} (h : MJ rs last j σ L os z bs i ρ σ') : σ'[L]? = some (.list (intsV os)) := by
  cases h; assumption
theorem marked_ok {n j last : Nat} {rs : List Rw} {σ : Store} {P : V → Store → Prop} (hn : 100 ≤ n) (hj : σ[j]? = some (.list (rs.map Rw.v))) (hl : rs.length ≤ 50) (hv : Val rs) (hlast : last < rs.length)
    (q : ∀ σ' L ds, Gr [] σ σ' → σ.length ≤ L → σ'[L]? = some (.list (intsV ds)) → IsRc rs last ds → P (.ref L) σ') : WC n 5 [.ref j, .int last] σ P := by
  obtain ⟨n, rfl⟩ := fuel hn
  refine wc_step fn5.2 rfl ?_
  dsimp only [fn5]
  have hb : (rs.map Rw.v).length ≤ big := le_big (len50 hl)
  walk_at "ABH"
  refine w2_of (lenL hj (len50 hl)) ?_
  walk_at "ABH"
  rw [List.length_map]
  walk_at "ABH"
  refine w2_of (rangeN (by omega)) ?_
  walk_at "ABH"
  refine wl_map (items := intsV (List.range rs.length)) (ws := bools ((List.range rs.length).map fun k => k == last)) (src_rng (by omega)) (by simp; omega) (by simp) (fun k v hk => ?_) ?_
  walk_at "ABH"
  · obtain ⟨hkl, rfl⟩ := range_get hk
    walk_at "ABH"
    refine wo_of (eqI _ _) ?_
    walk_at "ABH"
    refine ⟨by trivial, ?_⟩
    walk_at "ABH"
    have : ((k : Int) == (last : Int)) = (k == last) := by rw [Bool.eq_iff_iff]; simp; omega
    simp [hkl, this]
  walk_at "ABH"
  refine wo_of (a := .int (-Int.ofNat 1)) rfl ?_
  walk_at "ABH"
  refine wo_of (a := .int (-Int.ofNat 1)) rfl ?_
  walk_at "ABH"
  refine w2_of (rangeD (by omega)) ?_
  walk_at "ABH"
  (try dsimp only)
  walk_at "ABH"
  refine wf_run (items := intsV ((List.range (last + 1)).map fun k => last - k)) (MI rs last j σ) _
    (fun k ρ' σ' h => src_down (by omega)) (fun k ρ' σ' v h hv2 => ?_) (fun ρ' σ' h => ?_) laps 0 _ _
    (.mk Gr.app (by simp [upd, bindAll]) (by simp [upd, bindAll]) getEnd (by simp) (by simp [hlast]) (fun x hx => ?_) (fun x h1 h2 => ?_)) (Nat.zero_le _) (by have : laps = 70 := rfl; simp; omega)
  walk_at "ABH"
  · obtain @⟨bs, g, h16, h18, hbs, hbl, hbt, hsound, hclo⟩ := h
    have hbl50 : bs.length ≤ 50 := hbl ▸ hl
    obtain ⟨hkl, rfl⟩ := down_get hv2
    have hx : last - k < bs.length := by omega
    obtain ⟨b, hbx⟩ : ∃ b, bs[last - k]? = some b := ⟨_, List.getElem?_eq_getElem hx⟩
    show WXs _ _ _ _ _
    walk_at "ABH"
    refine wo_of (subL (v := .bool b) hbs (le_big (len50 hbl50)) (by simp [hbx])) ?_
    walk_at "ABH"
    refine wo_of (truB _) ?_
    walk_at "ABH"
    have hr : rs[last - k]? = some (rget rs (last - k)) := by
      have h : last - k < rs.length := by omega
      simp [rget, h]
    have hrv : (rs.map Rw.v)[last - k]? = some (rget rs (last - k)).v := by rw [List.getElem?_map, hr]; rfl
    cases b with
    | false =>
      walk_at "ABE"
      refine .mk g (by trivial) (by trivial) hbs hbl hbt hsound fun x h1 h2 m hm => ?_
      walk_at "ABH"
      by_cases hxk : x = last - k
      · subst hxk; rw [hbx] at h2; cases h2
      · exact hclo x (by omega) h2 m hm
    | true =>
      walk_at "ABE"
      walk_at "ABH"
      refine wo_of (subL (g.get hj (by simp)) hb hrv) ?_
      walk_at "ABH"
      refine over_ok (by omega) ?_
      walk_at "ABH"
      have hof := over_few (rget rs (last - k))
      have hlt := lt_of_get hbs
      walk_at "ABH"
      refine wf_run (items := intsV (rget rs (last - k)).over) (MJ rs last j σ σ'.length (rget rs (last - k)).over (last - k) bs) _
        (fun i ρ2 σ2 h => src_list h.src (by simp; omega)) (fun i ρ2 σ2 v h hv3 => ?_) (fun ρ2 σ2 h => ?_) laps 0 _ _
        (.mk (g.trans Gr.app) (by simp [upd, bindAll, h16]) (by simp [upd, bindAll, h18]) getEnd ((Gr.app (S := [])).get hbs (by simp)) hbl (fun _ h => h) hsound (by simp) (fun _ _ => rfl)) (Nat.zero_le _) (by have : laps = 70 := rfl; simp; omega)
      walk_at "ABH"
      · obtain @⟨bs2, g2, k16, k18, hsrc, hbs2, hbl2, hup, hsnd, htk, habove⟩ := h
        rw [List.getElem?_map, Option.map_eq_some_iff] at hv3
        obtain ⟨m, hm, rfl⟩ := hv3
        have hmo := List.mem_of_getElem? hm
        have hml := (hv.rget hmo).1
        show WXs _ _ _ _ _
        walk_at "ABH"
        refine wo_of (setLk hbs2 (by simp; omega) (by simp; omega)) ?_
        walk_at "ABH"
        have ebs : (bools bs2).set m (V.bool true) = bools (bs2.set m true) := by simp only [bools, List.map_set]
        rw [ebs]
        refine .mk (bs2 := bs2.set m true) (g2.hide Gr.set (by simp)) (by trivial) (by trivial) ((Gr.set).get hsrc (notin1 (Nat.ne_of_gt hlt))) (getSet hbs2) (by simp [hbl2]) (fun x hx => get_set_true (hup x hx)) (fun x hx => ?_) (fun y hy => ?_) (fun x hx => ?_)
        walk_at "ABH"
        · by_cases hxm : m = x
          · subst hxm; exact (hsound _ hbx).step hmo
          · rw [List.getElem?_set_ne hxm] at hx; exact hsnd x hx
        · rw [List.take_add_one, hm] at hy
          rcases List.mem_append.mp hy with hy | hy
          · exact get_set_true (htk y hy)
          · simp at hy
            subst hy
            exact List.getElem?_set_self (by omega)
        · rw [List.getElem?_set_ne (by omega)]; exact habove x hx
      · obtain @⟨bs2, g2, k16, k18, hsrc, hbs2, hbl2, hup, hsnd, htk, habove⟩ := h
        rw [List.take_of_length_le (by simp)] at htk
        walk_at "ABH"
        refine .mk g2 (by trivial) (by trivial) hbs2 hbl2 (hup _ hbt) hsnd fun x h1 h2 m hm => ?_
        walk_at "ABH"
        by_cases hxk : x = last - k
        · subst hxk; exact htk m hm
        · exact hup m (hclo x (by omega) (by rw [← habove x (by omega)]; exact h2) m hm)
  · obtain @⟨bs, g, h16, h18, hbs, hbl, hbt, hsound, hclo⟩ := h
    have hbl50 : bs.length ≤ 50 := hbl ▸ hl
    have hcl : ∀ x : Nat, Rc rs last x → bs[x]? = some true := fun x hx => by
      induction hx with
      | refl => exact hbt
      | step hd hm ih =>
        rename_i d m
        refine hclo d ?_ ih m hm
        walk_at "ABH"
        simp
        omega
    walk_at "ABH"
    refine w2_of (lenL (g.get hj (by simp)) (len50 hl)) ?_
    walk_at "ABH"
    rw [List.length_map]
    walk_at "ABH"
    refine w2_of (rangeN (by omega)) ?_
    walk_at "ABH"
    (try dsimp only)
    walk_at "ABH"
    refine wl_filter (items := intsV (List.range rs.length)) (fun k => (bs[k]?).getD false) (fun k => .int (k : Nat)) (src_rng (by omega)) (by simp; omega) (fun k v hk => ?_) (fun k v hk hp => ?_) ?_
    walk_at "ABH"
    · obtain ⟨hkl, rfl⟩ := range_get hk
      walk_at "ABH"
      have e : bs[k]? = some bs[k] := List.getElem?_eq_getElem (by omega)
      walk_at "ABH"
      refine wo_of (subL (v := .bool bs[k]) hbs (le_big (len50 hbl50)) (by simp [e])) ?_
      walk_at "ABH"
      exact ⟨by trivial, by rw [e]; rfl⟩
    · obtain ⟨hkl, rfl⟩ := range_get hk
      walk_at "ABH"
      exact ⟨by trivial, by trivial⟩
    refine q _ _ ((List.range (intsV (List.range rs.length)).length).filter fun k => (bs[k]?).getD false) (g.trans Gr.app) g.1 getEnd ⟨?_, fun x => ?_⟩
    walk_at "ABH"
    · exact (List.pairwise_lt_range).filter _
    · rw [List.mem_filter]
      constructor
      · rintro ⟨_, h2⟩
        refine hsound x ?_
        walk_at "ABH"
        cases e : bs[x]? with
        | none => rw [e] at h2; cases h2
        | some b => rw [e] at h2; simp at h2; rw [h2]
      · intro h
        have h2 := hcl x h
        refine ⟨?_, by rw [h2]; rfl⟩
        walk_at "ABH"
        have := (List.getElem?_eq_some_iff.mp h2).1
        simp; omega
  · rw [start_get hx]; exact .refl
  · rw [start_get h2] at h1; omega


theorem ww_inv {n : Nat} {t : PE} {b : List PS} (I : Nat → Loc → Store → Prop) (Q : Fl → Loc → Store → Prop)
    (step : ∀ m ρ σ, I m ρ σ → WE n t ρ σ (kLap n b ρ (fun ρ' σ' => ∃ m', m' < m ∧ I m' ρ' σ') Q)) :
    ∀ (l m : Nat) (ρ : Loc) (σ : Store), I m ρ σ → m < l → WW (whTest n t) (execs (exec n) b) l ρ σ Q
  | 0, m, ρ, σ, h, hl => absurd hl (by omega)
  | l + 1, m, ρ, σ, h, hl => by
    refine ww_lap ?_
    refine W2.mono (step m ρ σ h) fun a σ1 h1 => WO.mono h1 fun c h2 => ?_
    cases c with
    | true =>
      have h2 : W3 (execs (exec n) b ρ σ1) (lapOf (fun ρ' σ' => ∃ m', m' < m ∧ I m' ρ' σ') Q) := h2
      show W3 (execs (exec n) b ρ σ1) (lapOf (wwF n l t b Q) Q)
      refine W3.mono h2 fun fl ρ2 σ2 h3 => ?_
      cases fl with
      | next =>
        obtain ⟨m', hm, h4⟩ := h3
        exact ww_inv I Q step l m' ρ2 σ2 h4 (by omega)
      | ret v => exact h3
    | false => exact h2

theorem insertI_permA (x : Int) : ∀ l : List Int, (insertI x l).Perm (x :: l)
  | [] => .refl _
  | y :: r => by
    unfold insertI; split
    · exact .refl _
    · exact ((insertI_permA x r).cons y).trans (.swap x y r)
theorem insertI_risesA (x : Int) : ∀ l : List Int, l.Pairwise (· ≤ ·) → (insertI x l).Pairwise (· ≤ ·)
  | [], _ => by simp [insertI]
  | y :: r, h => by
    obtain ⟨h1, h2⟩ := List.pairwise_cons.mp h
    unfold insertI; split
    · refine List.pairwise_cons.mpr ⟨fun z hz => ?_, h⟩
      walk_at "ABH"
      rcases List.mem_cons.mp hz with rfl | hz
      · omega
      · have := h1 z hz; omega
    · refine List.pairwise_cons.mpr ⟨fun z hz => ?_, insertI_risesA x r h2⟩
      walk_at "ABH"
      rcases List.mem_cons.mp ((insertI_permA x r).mem_iff.mp hz) with rfl | hz
      · omega
      · exact h1 z hz
theorem sortI_permA : ∀ l : List Int, (sortI l).Perm l
  | [] => .refl _
  | x :: r => (insertI_permA x _).trans ((sortI_permA r).cons x)
theorem sortI_risesA : ∀ l : List Int, (sortI l).Pairwise (· ≤ ·)
  | [] => .nil
  | x :: r => insertI_risesA x _ (sortI_risesA r)

noncomputable abbrev keys (fs : List Nat) : List (Int × V) := fs.map fun x => ((x : Nat), .bool true)
theorem look_keys {fs : List Nat} {x : Nat} : (lookI (x : Nat) (keys fs)).isSome = decide (x ∈ fs) := by
  induction fs with
  | nil => rfl
  | cons a fs ih =>
    show (if (a : Int) = (x : Int) then some (V.bool true) else lookI (x : Nat) (keys fs)).isSome = _
    by_cases h : a = x
    · subst h; simp
    · have h2 : ¬ ((a : Int) = (x : Int)) := by omega
      rw [if_neg h2, ih]
      have : ¬ x = a := fun e => h e.symm
      simp [this]
theorem put_keys {fs : List Nat} {x : Nat} (h : x ∉ fs) : putI (x : Nat) (.bool true) (keys fs) = keys (fs ++ [x]) := by
  induction fs with
  | nil => rfl
  | cons a fs ih =>
    simp only [List.mem_cons, not_or] at h
    have h2 : ¬ ((a : Int) = (x : Int)) := by omega
    show (if (a : Int) = (x : Int) then _ else ((a : Int), V.bool true) :: putI (x : Nat) (.bool true) (keys fs)) = _
    rw [if_neg h2, ih h.2]; rfl
theorem inV_dict {σ : Store} {n : Nat} {kvs : List (Int × V)} {k : Int} (h : σ[n]? = some (.dictI kvs)) : inV σ (.int k) (.ref n) = some (lookI k kvs).isSome := by
  show (match (generalizing := false) σ[n]?, V.int k with
    | some (.dictI kvs), .int k => some (lookI k kvs).isSome
    | _, _ => none) = _
  rw [h]
theorem notInD {σ : Store} {n x : Nat} {fs : List Nat} (h : σ[n]? = some (.dictI (keys fs))) : cmpOp σ .NotIn (.int (x : Nat)) (.ref n) = some (.bool (!decide (x ∈ fs))) := by
  have := look_keys (fs := fs) (x := x)
  show (inV σ (.int (x : Nat)) (.ref n)).map (fun t => V.bool (!t)) = _
  rw [inV_dict h, this]; rfl
theorem sortedD {σ : Store} {n : Nat} {fs : List Nat} (h : σ[n]? = some (.dictI (keys fs))) (hl : fs.length < 60) : ∃ ds : List Nat, biOp σ .sorted [.ref n] = some (.ref σ.length, σ ++ [.list (intsV ds)]) ∧ ds.Pairwise (· ≤ ·) ∧ ds.Perm fs := by
  have hl' : (keys fs).length < 60 := by simpa using hl
  have hp := sortI_permA (fs.map fun (x : Nat) => (x : Int))
  have hr := sortI_risesA (fs.map fun (x : Nat) => (x : Int))
  have hk : (keys fs).map (·.1) = fs.map fun (x : Nat) => (x : Int) := by simp [keys, Function.comp_def]
  refine ⟨(sortI (fs.map fun (x : Nat) => (x : Int))).map Int.toNat, ?_, ?_, ?_⟩
  walk_at "ABH"
  · rw [show biOp σ .sorted [.ref n] = some (.ref σ.length, σ ++ [.list ((sortI ((keys fs).map (·.1))).map .int)]) from on_dictI (f := fun kvs => if kvs.length < 60 then some (V.ref σ.length, σ ++ [Cell.list ((sortI (kvs.map (·.1))).map .int)]) else none) h (if_pos hl'), hk]
    have e : intsV ((sortI (fs.map fun (x : Nat) => (x : Int))).map Int.toNat) = (sortI (fs.map fun (x : Nat) => (x : Int))).map V.int := by
      rw [intsV, List.map_map]
      refine List.map_congr_left fun x hx => ?_
      walk_at "ABH"
      obtain ⟨y, _, rfl⟩ := List.mem_map.mp (hp.mem_iff.mp hx)
      rfl
    rw [e]
  · exact List.pairwise_map.mpr (hr.imp fun h => Int.toNat_le_toNat h)
  · have := hp.map Int.toNat
    rw [List.map_map] at this
    have e : (Int.toNat ∘ fun (x : Nat) => (x : Int)) = id := by funext x; simp
    rw [e, List.map_id] at this
    exact this

theorem bounded : ∀ {N : Nat} {fs : List Nat}, fs.Nodup → (∀ x ∈ fs, x < N) → fs.length ≤ N
  | 0, fs, hn, h => by
    cases fs with
    | nil => simp
    | cons a r => exact absurd (h a (by simp)) (Nat.not_lt_zero _)
  | N + 1, fs, hn, h => by
    have h1 := bounded (N := N) (fs := fs.erase N) (hn.erase N) fun x hx => by
      have h2 := (List.Nodup.mem_erase_iff hn).mp hx
      have := h x h2.2
      have := h2.1
      omega
    rw [List.length_erase] at h1
    split at h1 <;> omega

inductive UI (rs : List Rw) (last j : Nat) (σ : Store) (m : Nat) (ρ : Loc) (σ' : Store) : Prop
  | mk {fs ws : List Nat} (g : Gr [] σ σ') (h16 : ρ 16 = some (.ref j)) (h19 : ρ 19 = some (.ref σ.length)) (h31 : ρ 31 = some (.ref (σ.length + 1))) (hfs : σ'[σ.length]? = some (.dictI (keys fs))) (hws : σ'[σ.length + 1]? = some (.list (intsV ws))) (hnd : fs.Nodup)
      (hrc : ∀ x ∈ fs, Rc rs last x) (hla : last ∈ fs) (hwf : ∀ x ∈ ws, x ∈ fs) (hcl : ∀ x ∈ fs, x ∉ ws → ∀ m ∈ (rget rs x).over, m ∈ fs) (hwl : ws.length ≤ fs.length) (hfl : fs.length ≤ rs.length) (hms : ws.length + rs.length ≤ m + fs.length) : UI rs last j σ m ρ σ'
inductive UJ (rs : List Rw) (last j : Nat) (σ : Store) (fs ws : List Nat) (os : List Nat) (i : Nat) (ρ : Loc) (σ' : Store) : Prop
  | mk {fs2 ws2 : List Nat} (g : Gr [] σ σ') (h16 : ρ 16 = some (.ref j)) (h19 : ρ 19 = some (.ref σ.length)) (h31 : ρ 31 = some (.ref (σ.length + 1))) (hfs : σ'[σ.length]? = some (.dictI (keys fs2))) (hws : σ'[σ.length + 1]? = some (.list (intsV ws2))) (hnd : fs2.Nodup)
      (hrc : ∀ y ∈ fs2, Rc rs last y) (hup : ∀ y ∈ fs, y ∈ fs2) (hwf : ∀ y ∈ ws2, y ∈ fs2) (hcl : ∀ y ∈ fs2, y ∉ ws2 → y ∈ fs ∧ y ∉ ws.dropLast) (htk : ∀ y ∈ os.take i, y ∈ fs2) (hdl : ∀ y ∈ ws.dropLast, y ∈ ws2) (hwl : ws2.length ≤ ws.length - 1 + i) (hfl : fs2.length ≤ rs.length)
      (hms : ws2.length + fs.length = ws.length - 1 + fs2.length) : UJ rs last j σ fs ws os i ρ σ'
theorem used_ok {n j last : Nat} {rs : List Rw} {σ : Store} {P : V → Store → Prop} (hn : 100 ≤ n) (hj : σ[j]? = some (.list (rs.map Rw.v))) (hl : rs.length ≤ 50) (hv : Val rs) (hlast : last < rs.length)
    (q : ∀ σ' L ds, Gr [] σ σ' → σ.length ≤ L → σ'[L]? = some (.list (intsV ds)) → IsRc rs last ds → P (.ref L) σ') : WC n 12 [.ref j, .int last] σ P := by
  obtain ⟨n, rfl⟩ := fuel hn
  refine wc_step fn12.2 rfl ?_
  dsimp only [fn12]
  have hb : (rs.map Rw.v).length ≤ big := le_big (len50 hl)
  walk_at "ABH"
  refine wo_of rfl ?_
  walk_at "ABH"
  have e1 : (σ ++ [Cell.dictI [((last : Int), V.bool true)]]).length = σ.length + 1 := by simp
  rw [e1]
  walk_at "ABH"
  refine ww_inv (UI rs last j σ) _ (fun m ρ' σ' h => ?_) laps 50 _ _
    (.mk (fs := [last]) (ws := [last]) (Gr.app.trans Gr.app) (by simp [upd, bindAll]) (by simp [upd, bindAll]) (by simp [upd, bindAll]) ((Gr.app (S := [])).get getEnd (by simp)) (by rw [← e1]; exact getEnd) (by simp) (fun x hx => by simp at hx; rw [hx]; exact .refl) (by simp) (by simp) (by simp) (by simp) (Nat.lt_of_le_of_lt (Nat.zero_le _) hlast) (by simp; omega)) (by decide)
  walk_at "ABH"
  obtain @⟨fs, ws, g, h16, h19, h31, hfs, hws, hnd, hrc, hla, hwf, hcl, hwl, hfl, hms⟩ := h
  have hw50 : ws.length ≤ 50 := Nat.le_trans hwl (Nat.le_trans hfl hl)
  walk_at "ABH"
  refine w2_of (lenL hws (len50 hw50)) ?_
  walk_at "ABH"
  refine wo_of (gtI _ _) ?_
  walk_at "ABH"
  refine wo_of (truB _) ?_
  walk_at "ABH"
  by_cases h0 : ws = []
  · subst h0
    walk_at "ABH"
    refine ifTF (by rfl) ?_
    walk_at "ABH"
    walk_at "ABH"
    obtain ⟨ds, hs, hasc, hperm⟩ := sortedD hfs (by omega)
    walk_at "ABH"
    refine w2_of hs ?_
    walk_at "ABH"
    have hall : ∀ x, Rc rs last x → x ∈ fs := fun x hx => by
      induction hx with
      | refl => exact hla
      | step hd hm ih => exact hcl _ ih (by simp) _ hm
    refine q _ _ ds (g.trans Gr.app) g.1 getEnd ⟨?_, fun x => ?_⟩
    walk_at "ABH"
    · have hdn : ds.Nodup := hperm.nodup_iff.mpr hnd
      exact (hasc.and hdn).imp fun h => Nat.lt_of_le_of_ne h.1 h.2
    · rw [hperm.mem_iff]; exact ⟨hrc x, hall x⟩
  · have hpos : 0 < ws.length := List.length_pos_iff.mpr h0
    walk_at "ABH"
    refine ifTT (by simp only [List.length_map, decide_eq_true_eq]; have : (Int.ofNat 0 : Int) = 0 := rfl; omega) ?_
    walk_at "ABH"
    obtain ⟨x, hx⟩ : ∃ x, ws.getLast? = some x := ⟨_, List.getLast?_eq_some_getLast h0⟩
    have hxf : x ∈ fs := hwf x (List.mem_of_getLast? hx)
    have hxr := hrc x hxf
    have hxl : x < rs.length := by have := hxr.le hv; omega
    walk_at "ABH"
    refine wm_list hws hws (popL (v := .int (x : Nat)) (len50 hw50) (by rw [List.getLast?_map, hx]; rfl)) ?_
    walk_at "ABH"
    have hws2 := getSet (c' := .list (intsV ws).dropLast) hws
    have hdl : (intsV ws).dropLast = intsV ws.dropLast := by simp [intsV, List.map_dropLast]
    rw [hdl] at hws2 ⊢
    generalize hσ2 : σ'.set (σ.length + 1) (.list (intsV ws.dropLast)) = σ2 at hws2
    have g1 : Gr [σ.length + 1] σ' σ2 := hσ2 ▸ Gr.set
    have gg : Gr [] σ σ2 := g.hide g1 (by simp)
    have hfs2 := g1.get hfs (by simp)
    have hr : rs[x]? = some (rget rs x) := by simp [rget, hxl]
    have hrv : (rs.map Rw.v)[x]? = some (rget rs x).v := by rw [List.getElem?_map, hr]; rfl
    walk_at "ABH"
    refine wo_of (subL (gg.get hj (by simp)) hb hrv) ?_
    walk_at "ABH"
    refine made_of_ok (by omega) ?_
    walk_at "ABH"
    have hof := over_few (rget rs x)
    have hwd : ws.dropLast.length = ws.length - 1 := by simp
    walk_at "ABH"
    refine wf_run (items := intsV (rget rs x).over) (UJ rs last j σ fs ws (rget rs x).over) _
      (fun i ρ2 σ3 h => src_tup (by simp; omega)) (fun i ρ2 σ3 v h hv3 => ?_) (fun ρ2 σ3 h => ?_) laps 0 _ _
      (.mk gg h16 h19 h31 hfs2 hws2 hnd hrc (fun _ h => h) (fun y hy => hwf y ((List.dropLast_sublist ws).subset hy)) (fun y h1 h2 => ⟨h1, h2⟩) (by simp) (fun _ h => h) (Nat.le_of_eq hwd) hfl (by rw [hwd])) (Nat.zero_le _) (by have : laps = 70 := rfl; simp; omega)
    walk_at "ABH"
    · obtain @⟨fs2, ws2, g3, k16, k19, k31, kfs, kws, knd, krc, kup, kwf, kcl, ktk, kdl, kwl, kfl, kms⟩ := h
      rw [List.getElem?_map, Option.map_eq_some_iff] at hv3
      obtain ⟨m', hm, rfl⟩ := hv3
      have hmo := List.mem_of_getElem? hm
      have hi : i < 2 := by have := (List.getElem?_eq_some_iff.mp hm).1; omega
      show WXs _ _ _ _ _
      walk_at "ABH"
      refine wo_of (notInD kfs) ?_
      walk_at "ABH"
      refine wo_of (truB _) ?_
      walk_at "ABH"
      by_cases hin : m' ∈ fs2
      · rw [decide_eq_true hin]
        walk_at "ABH"
        refine ifTF rfl ?_
        walk_at "ABH"
        refine .mk g3 (by trivial) (by trivial) (by trivial) kfs kws knd krc kup kwf kcl (fun y hy => ?_) kdl (Nat.le_succ_of_le kwl) kfl kms
        walk_at "ABH"
        rw [List.take_add_one, hm] at hy
        rcases List.mem_append.mp hy with hy | hy
        · exact ktk y hy
        · simp at hy; subst hy; exact hin
      · rw [decide_eq_false hin]
        walk_at "ABH"
        refine ifTT rfl ?_
        walk_at "ABH"
        have hnd2 : (fs2 ++ [m']).Nodup := by
          rw [List.nodup_append]
          exact ⟨knd, by simp, fun a ha b hb => by simp at hb; subst hb; exact fun e => hin (e ▸ ha)⟩
        have hrc2 : ∀ y ∈ fs2 ++ [m'], Rc rs last y := fun y hy => by
          rcases List.mem_append.mp hy with hy | hy
          · exact krc y hy
          · simp at hy; subst hy; exact hxr.step hmo
        have hlen2 : (fs2 ++ [m']).length ≤ rs.length := bounded hnd2 fun y hy => by have := (hrc2 y hy).le hv; omega
        have e3 := setD (σ := σ3) (k := (m' : Nat)) (v := .bool true) kfs (by simp; omega)
        rw [put_keys hin] at e3
        walk_at "ABH"
        refine wo_of e3 ?_
        walk_at "ABH"
        have kws4 := (Gr.set (σ := σ3) (j := σ.length) (c := .dictI (keys (fs2 ++ [m'])))).get kws (by simp)
        have ews : intsV ws2 ++ [V.int (m' : Nat)] = intsV (ws2 ++ [m']) := by simp [intsV]
        have e4 := appL (σ := σ3.set σ.length (.dictI (keys (fs2 ++ [m'])))) (k := σ.length + 1) (v := .int (m' : Nat)) (ws := intsV ws2) (by simp; omega)
        rw [ews] at e4
        walk_at "ABH"
        refine wm_list kws4 kws4 e4 ?_
        walk_at "ABH"
        refine .mk ((g3.hide Gr.set (by simp)).hide Gr.set (by simp)) (by trivial) (by trivial) (by trivial) ((Gr.set).get (getSet kfs) (by simp)) (getSet kws4) hnd2 hrc2 (fun y hy => List.mem_append_left _ (kup y hy)) (fun y hy => ?_) (fun y h1 h2 => ?_) (fun y hy => ?_) (fun y hy => List.mem_append_left _ (kdl y hy)) (by simp; omega) hlen2 (by simp; omega)
        walk_at "ABH"
        · rcases List.mem_append.mp hy with hy | hy
          · exact List.mem_append_left _ (kwf y hy)
          · exact List.mem_append_right _ hy
        · simp only [List.mem_append, not_or] at h1 h2
          rcases h1 with h1 | h1
          · exact kcl y h1 h2.1
          · exact absurd h1 h2.2
        · rw [List.take_add_one, hm] at hy
          rcases List.mem_append.mp hy with hy | hy
          · exact List.mem_append_left _ (ktk y hy)
          · simp at hy; subst hy; simp
    · obtain @⟨fs2, ws2, g3, k16, k19, k31, kfs, kws, knd, krc, kup, kwf, kcl, ktk, kdl, kwl, kfl, kms⟩ := h
      rw [List.take_of_length_le (by simp)] at ktk
      walk_at "ABH"
      have hol : (intsV (rget rs x).over).length ≤ 2 := by simp; omega
      refine ⟨m - 1, by omega, .mk g3 (by trivial) (by trivial) (by trivial) kfs kws knd krc (kup _ hla) kwf (fun y h1 h2 z hz => ?_) (by omega) kfl (by omega)⟩
      walk_at "ABH"
      obtain ⟨h3, h4⟩ := kcl y h1 h2
      by_cases hyx : y = x
      · subst hyx; exact ktk z hz
      · refine kup z (hcl y h3 (fun hyw => ?_) z hz)
        walk_at "ABH"
        have hsplit : ws = ws.dropLast ++ [x] := by
          rw [List.getLast?_eq_some_iff] at hx
          obtain ⟨ys, rfl⟩ := hx
          simp
        rw [hsplit] at hyw
        rcases List.mem_append.mp hyw with h5 | h5
        · exact h4 h5
        · simp at h5; exact hyx h5


/-- a comprehension whose parts make new cells -/
theorem wl_grow {n : Nat} {src : V} {x : Nat} {el : PE} {ρ : Loc} {σ : Store} {items ws : List V} {P : List V → Store → Prop} (hs : ∀ σ', Gr [] σ σ' → Src src items σ') (hl : items.length ≤ 60) (hw : ws.length = items.length)
    (step : ∀ (k : Nat) (v : V) (σ' : Store), Gr [] σ σ' → items[k]? = some v → WE n el (upd ρ x v) σ' fun w σ2 => Gr [] σ' σ2 ∧ ws[k]? = some w) (q : ∀ σ', Gr [] σ σ' → P ws σ') :
    WL src (compOne n ρ el x []) laps 0 [] σ P := by
  refine wl_run (items := items) (fun k acc σ' => Gr [] σ σ' ∧ acc = ws.take k) P (fun k acc σ' h => hs _ h.1) (fun k acc σ' v h hv => ?_) (fun acc σ' h => ?_) laps 0 [] σ ⟨Gr.refl, by simp⟩ (Nat.zero_le _) (by have : laps = 70 := rfl; omega)
  walk_at "ABH"
  · obtain ⟨g, rfl⟩ := h
    have := step k v σ' g hv
    unfold WE at this
    simp only [compOne, evIfs, one?, if_true]
    cases e : ev n el (upd ρ x v) σ' with
    | none => rw [e] at this; exact this.elim
    | some p =>
      obtain ⟨w, σ2⟩ := p
      rw [e] at this
      obtain ⟨g2, h2⟩ := this
      show Gr [] σ σ2 ∧ _
      refine ⟨g.trans g2, ?_⟩
      walk_at "ABH"
      rw [List.take_add_one, h2]; rfl
  · obtain ⟨g, rfl⟩ := h
    rw [← hw, List.take_length]; exact q _ g

theorem le_sum {x : Nat} : ∀ {l : List Nat}, x ∈ l → x ≤ l.sum
  | a :: l, h => by
    rw [List.sum_cons]
    rcases List.mem_cons.mp h with rfl | h
    · omega
    · have := le_sum h; omega
theorem sum_cast (l : List Nat) : (l.map fun (i : Nat) => (i : Int)).sum = ((l.sum : Nat) : Int) := by
  induction l with
  | nil => rfl
  | cons a l ih => rw [List.map_cons, List.sum_cons, ih, List.sum_cons]; omega
theorem sumL {σ : Store} {j : Nat} {l : List Nat} (h : σ[j]? = some (.list (intsV l))) (hb : l.length ≤ 100) : biOp σ .sum [.ref j] = some (.int (l.sum : Nat), σ) := by
  have hb' : (intsV l).length ≤ big := by have : big = 4096 := rfl; simp; omega
  exact on_list (f := fun vs => if vs.length ≤ big then (allInts vs).map fun l => (V.int l.sum, σ) else none) h ((if_pos hb').trans (by rw [allInts_ints, Option.map_some, sum_cast]))

theorem weight_ok (t : Tm) : ∀ {n : Nat} {σ : Store} {P : V → Store → Prop}, 10 * t.w ≤ n → (∀ σ', Gr [] σ σ' → P (.int (t.w : Nat)) σ') → WC n 1 [t.v] σ P := by
  have start : ∀ {n : Nat} {σ : Store} {P : V → Store → Prop} (t : Tm) (l : List Tm), t.v = .tup (.str (if t = .a then [97] else if t = .b then [98] else [103]) :: l.map Tm.v) → l.length ≤ 2 → t.w = 1 + (l.map Tm.w).sum →
      (∀ u ∈ l, ∀ {n : Nat} {σ : Store} {P : V → Store → Prop}, 10 * u.w ≤ n → (∀ σ', Gr [] σ σ' → P (.int (u.w : Nat)) σ') → WC n 1 [u.v] σ P) → 10 * t.w ≤ n → (∀ σ', Gr [] σ σ' → P (.int (t.w : Nat)) σ') → WC n 1 [t.v] σ P := by
    intro n σ P t l htv hll htw ih hn q
    have hp := t.pos
    obtain ⟨n, rfl⟩ := fuel (m := 10) (n := n) (by omega)
    refine wc_step fn1.2 rfl ?_
    dsimp only [fn1]
    walk_at "ABH"
    rw [htv]
    walk_at "ABH"
    refine wo_of (fromT (by simp only [List.length_cons, List.length_map, Bool.and_eq_true, Nat.ble_eq]; omega)) ?_
    walk_at "ABH"
    refine wl_grow (items := l.map Tm.v) (ws := intsV (l.map Tm.w)) (fun σ' g => src_tup (by simp; omega)) (by simp; omega) (by simp) (fun k v σ' g hk => ?_) fun σ' g => ?_
    walk_at "ABH"
    · rw [List.getElem?_map, Option.map_eq_some_iff] at hk
      obtain ⟨u, hk, rfl⟩ := hk
      have hu := List.mem_of_getElem? hk
      walk_at "ABH"
      have hle : u.w ≤ (l.map Tm.w).sum := le_sum (List.mem_map.mpr ⟨u, hu, rfl⟩)
      refine ih u hu (by omega) fun σ2 g2 => ⟨g2, by simp [hk]⟩
    · walk_at "ABH"
      refine w2_of (sumL getEnd (by simp; omega)) ?_
      walk_at "ABH"
      refine wo_of (addI _ _) ?_
      walk_at "ABH"
      have e : (Int.ofNat 1 : Int) + (((l.map Tm.w).sum : Nat) : Int) = ((t.w : Nat) : Int) := by rw [htw]; rfl
      (try dsimp only)
      rw [e]
      exact q _ (g.trans Gr.app)
  induction t with
  | a => intro n σ P hn q; exact start .a [] rfl (by simp) rfl (by simp) hn q
  | b => intro n σ P hn q; exact start .b [] rfl (by simp) rfl (by simp) hn q
  | g1 t ih => intro n σ P hn q; exact start (.g1 t) [t] (by simp [Tm.v]) (by simp) (by simp [Tm.w]) (by simp; exact ih) hn q
  | g2 t u ih ih2 => intro n σ P hn q; exact start (.g2 t u) [t, u] (by simp [Tm.v]) (by simp) (by simp [Tm.w]) (by simp; exact ⟨ih, ih2⟩) hn q

theorem pick_ok {n i r k : Nat} {m : Int} {σ : Store} {P : V → Store → Prop} (hn : 20 ≤ n) (F : Feed i r k σ) (hk : k < 900) (hm : 0 < m)
    (q : ∀ (x : Nat) (σ' : Store), (x : Int) < m → Feed i r (k + 1) σ' → Gr [i] σ σ' → P (.int x) σ') : WC n 0 [.ref i, .int m] σ P := by
  refine feed_pick hn F hm fun x hx => ?_
  walk_at "ABH"
  obtain ⟨hc, ⟨l, hl, hl2⟩, _, hne⟩ := F
  refine q x _ hx ⟨getSet hc, ⟨l, ?_, hl2⟩, by omega, hne⟩ Gr.set
  walk_at "ABH"
  rw [List.getElem?_set_ne hne]; exact hl

theorem leaf_ok {n i rr k : Nat} {σ : Store} {P : V → Store → Prop} (hn : 40 ≤ n) (F : Feed i rr k σ) (hk : k < 900)
    (q : ∀ (r : Rw) (p : Tm × Tm) (σ' : Store), r.over = [] → sd r [] = some p → p.1.w ≤ 2 ∧ p.2.w ≤ 2 → Feed i rr (k + 1) σ' → Gr [i] σ σ' → P (.tup [r.v, pv p]) σ') : WC n 2 [.ref i] σ P := by
  obtain ⟨n, rfl⟩ := fuel hn
  refine wc_step fn2.2 rfl ?_
  dsimp only [fn2]
  walk_at "ABH"
  refine pick_ok (by omega) F hk (by decide) fun x σ1 hx F1 g1 => ?_
  walk_at "ABH"
  have hx4 : x = 0 ∨ x = 1 ∨ x = 2 ∨ x = 3 := by
    have : (Int.ofNat 4 : Int) = 4 := rfl
    omega
  rcases hx4 with rfl | rfl | rfl | rfl
  · walk_at "ABE"
    walk_at "ABH"
    refine wo_of (a := .str [116]) (by rfl) ?_
    walk_at "ABH"
    refine wo_of (subTold (by rfl)) ?_
    walk_at "ABH"
    exact q (.told false) _ _ rfl rfl (by simp [Tm.w]) F1 g1
  · walk_at "ABE"
    walk_at "ABH"
    refine wo_of (a := .str [117]) (by rfl) ?_
    walk_at "ABH"
    refine wo_of (subTold (by rfl)) ?_
    walk_at "ABH"
    exact q (.told true) _ _ rfl rfl (by simp [Tm.w]) F1 g1
  · walk_at "ABE"
    walk_at "ABH"
    refine wo_of (a := .str [116]) (by rfl) ?_
    walk_at "ABH"
    refine wo_of (subTold (by rfl)) ?_
    walk_at "ABH"
    exact q (.told false) _ _ rfl rfl (by simp [Tm.w]) F1 g1
  · walk_at "ABE"
    exact q .same _ _ rfl rfl (by simp [Tm.w]) F1 g1


theorem inI2 {σ : Store} (x a b : Int) : cmpOp σ .In (.int x) (.tup [.int a, .int b]) = some (.bool (a == x || b == x)) := by
  show some (V.bool (a == x || (b == x || false))) = _
  rw [Bool.or_false]
theorem eqV_lists {σ : Store} {i j : Nat} {vs ws : List V} (hi : σ[i]? = some (.list vs)) (hj : σ[j]? = some (.list ws)) (h1 : V.pures 40 vs = true) (h2 : V.pures 40 ws = true) (h3 : vs.length ≤ big) (h4 : ws.length ≤ big) : eqV σ (.ref i) (.ref j) = some (V.beqs vs ws) := by
  show (match σ[i]?, σ[j]? with
    | some (.list vs), some (.list ws) => if V.pures 40 vs && V.pures 40 ws && decide (vs.length ≤ big) && decide (ws.length ≤ big) then some (V.beqs vs ws) else none
    | _, _ => none) = _
  rw [hi, hj]
  exact if_pos (by rw [h1, h2, decide_eq_true h3, decide_eq_true h4]; rfl)
theorem neLists {σ : Store} {i j : Nat} {l : List Nat} (hi : σ[i]? = some (.list (intsV l))) (hj : σ[j]? = some (.list [])) (hl : l.length ≤ 100) : cmpOp σ .NotEq (.ref i) (.ref j) = some (.bool (!l.isEmpty)) := by
  have hb : (intsV l).length ≤ big := by have : big = 4096 := rfl; simp; omega
  have h0 : ([] : List V).length ≤ big := by have : big = 4096 := rfl; simp
  have h1 : V.pures 40 ([] : List V) = true := rfl
  show (eqV σ (.ref i) (.ref j)).map (fun x => V.bool (!x)) = _
  rw [eqV_lists hi hj (pures_ints _ _) h1 hb h0]
  cases l <;> rfl
theorem tup2 (p : Tm × Tm) : tupOf 2 (pv p) = some [p.1.v, p.2.v] := rfl

theorem Feed.gr {i r k : Nat} {S : List Nat} {σ σ' : Store} (F : Feed i r k σ) (g : Gr S σ σ') (h1 : i ∉ S) (h2 : r ∉ S) : Feed i r k σ' := by
  obtain ⟨a, ⟨l, b, b2⟩, c, d⟩ := F
  exact ⟨g.get a h1, ⟨l, g.get b h2, b2⟩, c, d⟩

theorem row_ok {n i rr k js : Nat} {ss : List (Tm × Tm)} {σ : Store} {P : V → Store → Prop} (hn : 240 ≤ n) (F : Feed i rr k σ) (hk : k < 800) (hji : js ≠ i) (hj : σ[js]? = some (.list (ss.map pv))) (h1 : 1 ≤ ss.length) (hl : ss.length ≤ 50)
    (hw : ∀ p ∈ ss, p.1.w ≤ 16 ∧ p.2.w ≤ 16)
    (q : ∀ (r : Rw) (p : Tm × Tm) (σ' : Store) (k' : Nat), (∀ m ∈ r.over, m < ss.length) → sd r (r.over.map (sat ss)) = some p → p.1.w ≤ 16 ∧ p.2.w ≤ 16 → Feed i rr k' σ' → k' ≤ k + 10 → Gr [i] σ σ' → P (.tup [r.v, pv p]) σ') :
    WC n 3 [.ref i, .ref js] σ P := by
  obtain ⟨n, rfl⟩ := fuel hn
  refine wc_step fn3.2 rfl ?_
  dsimp only [fn3]
  have hjn : js ∉ [i] := notin1 hji
  have hb : (ss.map pv).length ≤ big := le_big (len50 hl)
  have hget : ∀ m, m < ss.length → (ss.map pv)[m]? = some (pv (sat ss m)) := fun m hm => by rw [List.getElem?_map, sat_get hm]; rfl
  have hsw : ∀ m, m < ss.length → (sat ss m).1.w ≤ 16 ∧ (sat ss m).2.w ≤ 16 := fun m hm => hw _ (List.mem_of_getElem? (sat_get hm))
  walk_at "ABH"
  refine pick_ok (by omega) F (by omega) (by decide) fun x σ1 hx F1 g1 => ?_
  walk_at "ABH"
  refine w2_of (lenL (g1.get hj hjn) (len50 hl)) ?_
  walk_at "ABH"
  rw [List.length_map]
  walk_at "ABH"
  refine pick_ok (by omega) F1 (by omega) (by omega) fun m σ2 hm F2 g2 => ?_
  walk_at "ABH"
  have g12 := g1.trans g2
  have hj2 := g12.get hj hjn
  have hm' : m < ss.length := by omega
  walk_at "ABH"
  refine wo_of (subL hj2 hb (hget m hm')) ?_
  walk_at "ABH"
  refine wo_of (tup2 _) ?_
  walk_at "ABH"
  (try walk_at "ABH")
  have turn : ∀ (k' : Nat) (σ' : Store), Feed i rr k' σ' → k' ≤ k + 10 → Gr [i] σ σ' → P (.tup [.tup [.str [116, 117, 114, 110], .int m], .tup [(sat ss m).2.v, (sat ss m).1.v]]) σ' := fun k' σ' F' hk' g' =>
    q (.turn m) ((sat ss m).2, (sat ss m).1) σ' k' (by simp [Rw.over]; exact hm') rfl ⟨(hsw m hm').2, (hsw m hm').1⟩ F' hk' g'
  by_cases h0 : x = 0
  · subst h0
    walk_at "ABE"
    walk_at "ABH"
    refine leaf_ok (by omega) F2 (by omega) fun r p σ3 ho hsd hpw F3 g3 => ?_
    walk_at "ABH"
    exact q r p σ3 _ (by rw [ho]; simp) (by rw [ho]; exact hsd) (by omega) F3 (by omega) (g12.trans g3)
  walk_at "ABH"
  refine wo_of (eqI _ _) ?_
  walk_at "ABH"
  refine wo_of (truB _) ?_
  walk_at "ABH"
  refine ifTF (by rw [beq_eq_false_iff_ne]; have : (Int.ofNat 0 : Int) = 0 := rfl; omega) ?_
  walk_at "ABH"
  refine wo_of (inI2 _ _ _) ?_
  walk_at "ABH"
  refine wo_of (truB _) ?_
  walk_at "ABH"
  have c2 : (Int.ofNat 2 : Int) = 2 := rfl
  have c3 : (Int.ofNat 3 : Int) = 3 := rfl
  by_cases h23 : x = 2 ∨ x = 3
  · walk_at "ABH"
    refine ifTT (by rw [c2, c3]; rcases h23 with rfl | rfl <;> decide) ?_
    walk_at "ABH"
    refine w2_of (lenL hj2 (len50 hl)) ?_
    walk_at "ABH"
    rw [List.length_map]
    walk_at "ABH"
    refine w2_of (rangeN (by omega)) ?_
    walk_at "ABH"
    (try dsimp only)
    walk_at "ABH"
    refine wl_filter (items := intsV (List.range ss.length)) (fun y => decide ((sat ss y).1 = (sat ss m).2)) (fun y => .int (y : Nat)) (src_rng (by omega)) (by simp; omega) (fun y v hy => ?_) (fun y v hy hp => ?_) ?_
    walk_at "ABH"
    · obtain ⟨hyl, rfl⟩ := range_get hy
      walk_at "ABH"
      refine wo_of (subL hj2 hb (hget y hyl)) ?_
      walk_at "ABH"
      refine wo_of (subT (v := (sat ss y).1.v) (by rfl) (by rfl)) ?_
      walk_at "ABH"
      refine wo_of (eqT (by have := (hsw y hyl).1; omega) (by have := (hsw m hm').2; omega)) ?_
      walk_at "ABH"
      exact ⟨by trivial, by trivial⟩
    · obtain ⟨hyl, rfl⟩ := range_get hy
      walk_at "ABH"
      exact ⟨by trivial, by trivial⟩
    generalize hsome : ((List.range (intsV (List.range ss.length)).length).filter fun y => decide ((sat ss y).1 = (sat ss m).2)) = some'
    have hmem : ∀ y ∈ some', y < ss.length ∧ (sat ss y).1 = (sat ss m).2 := fun y hy => by
      rw [← hsome, List.mem_filter] at hy
      simp at hy
      exact hy
    have hlen : some'.length ≤ 50 := by
      have := List.length_filter_le (fun y => decide ((sat ss y).1 = (sat ss m).2)) (List.range (intsV (List.range ss.length)).length)
      rw [hsome] at this
      simp at this
      omega
    walk_at "ABH"
    refine wo_of (neLists (l := some') ((Gr.app (S := [])).get getEnd (by simp)) getEnd (by omega)) ?_
    walk_at "ABH"
    refine wo_of (truB _) ?_
    walk_at "ABH"
    generalize hσ3 : (σ2 ++ [Cell.list (List.map (fun y => V.int (y : Nat)) some')] ++ [Cell.list []]) = σ3
    have g3 : Gr [] σ2 σ3 := hσ3 ▸ Gr.app.trans Gr.app
    have g13 : Gr [i] σ σ3 := g12.trans g3.none
    have hF3 : Feed i rr (k + 1 + 1) σ3 := F2.gr g3 (by simp) (by simp)
    have hs3 : σ3[σ2.length]? = some (.list (intsV some')) := hσ3 ▸ (Gr.app (S := [])).get getEnd (by simp)
    by_cases hse : some' = []
    · rw [hse]
      walk_at "ABH"
      refine ifTF (by rfl) ?_
      walk_at "ABH"
      refine wo_of (gtI _ _) ?_
      walk_at "ABH"
      refine wo_of (truB _) ?_
      walk_at "ABH"
      refine ifTF (by rw [c3, decide_eq_false]; rcases h23 with rfl | rfl <;> decide) ?_
      walk_at "ABH"
      exact turn _ _ hF3 (by omega) g13
    · have hpos : 0 < some'.length := List.length_pos_iff.mpr hse
      walk_at "ABH"
      refine ifTT (by cases some' with | nil => exact absurd rfl hse | cons _ _ => rfl) ?_
      walk_at "ABH"
      refine w2_of (lenL hs3 (len50 hlen)) ?_
      walk_at "ABH"
      rw [List.length_map]
      walk_at "ABH"
      refine pick_ok (by omega) hF3 (by omega) (by omega) fun y σ4 hy F4 g4 => ?_
      walk_at "ABH"
      have hil : i < σ2.length := lt_of_get F2.cell
      have hs4 := g4.get hs3 (by simp; omega)
      have hyl : y < some'.length := by omega
      walk_at "ABH"
      refine wo_of (subL (v := .int (some'[y] : Nat)) hs4 (le_big (len50 hlen)) (by simp [hyl])) ?_
      walk_at "ABH"
      obtain ⟨hz1, hz2⟩ := hmem some'[y] (List.getElem_mem hyl)
      walk_at "ABH"
      refine wo_of (subL ((g13.trans g4).get hj hjn) hb (hget _ hz1)) ?_
      walk_at "ABH"
      refine wo_of (subT (v := (sat ss some'[y]).2.v) (by rfl) (by rfl)) ?_
      walk_at "ABH"
      refine q (.join m some'[y]) ((sat ss m).1, (sat ss some'[y]).2) σ4 _ (by simp [Rw.over]; exact ⟨hm', hz1⟩) ?_ ⟨(hsw m hm').1, (hsw _ hz1).2⟩ F4 (by omega) (g13.trans g4)
      walk_at "ABH"
      simp only [Rw.over, List.map_cons, List.map_nil, sd]
      rw [if_pos hz2.symm]
  walk_at "ABH"
  refine ifTF (by rw [c2, c3, Bool.or_eq_false_iff, beq_eq_false_iff_ne, beq_eq_false_iff_ne]; omega) ?_
  walk_at "ABH"
  refine wo_of (gtI _ _) ?_
  walk_at "ABH"
  refine wo_of (truB _) ?_
  walk_at "ABH"
  by_cases h45 : x ≤ 3
  · walk_at "ABH"
    refine ifTF (by rw [c3, decide_eq_false]; omega) ?_
    walk_at "ABH"
    exact turn _ _ F2 (by omega) g12
  walk_at "ABH"
  refine ifTT (by rw [c3, decide_eq_true]; omega) ?_
  walk_at "ABH"
  refine pick_ok (by omega) F2 (by omega) (by decide) fun y σ3 hy F3 g3 => ?_
  walk_at "ABH"
  have g13 := g12.trans g3
  walk_at "ABH"
  refine wo_of (eqI _ _) ?_
  walk_at "ABH"
  refine wo_of (truB _) ?_
  walk_at "ABH"
  by_cases hy0 : y = 0
  · walk_at "ABH"
    refine ifTT (by rw [hy0]; rfl) ?_
    walk_at "ABH"
    generalize hσs : (σ3 ++ [Cell.list [V.int (m : Nat)]]) = σs
    have gA : Gr [] σ3 σs := hσs ▸ Gr.app
    have gS : Gr [i] σ σs := g13.trans gA.none
    have hFs : Feed i rr (k + 1 + 1 + 1) σs := F3.gr gA (by simp) (by simp)
    have hsl : σs[σ3.length]? = some (.list (intsV [m])) := hσs ▸ getEnd
    have hjs := gS.get hj hjn
    have hlm : ∀ z ∈ [m], z < ss.length := (by simp; exact hm')
    have hzip : ∀ (y : Nat) (v : V), (intsV [m])[y]? = some v → ∃ z, [m][y]? = some z ∧ z < ss.length ∧ v = .int (z : Nat) := fun y v hy => by
      rw [List.getElem?_map, Option.map_eq_some_iff] at hy
      obtain ⟨z, hz, rfl⟩ := hy
      exact ⟨z, hz, hlm z (List.mem_of_getElem? hz), rfl⟩
    walk_at "ABH"
    refine wl_grow (items := intsV [m]) (ws := intsV ([m].map fun y => (sat ss y).1.w + (sat ss y).2.w)) (fun σ' g => src_list (g.get hsl (by simp)) (by simp)) (by simp) (by simp) (fun y v σ' g hy => ?_) fun σ5 g5 => ?_
    walk_at "ABH"
    · obtain ⟨z, hz1, hz, rfl⟩ := hzip y v hy
      have hwz := hsw z hz
      walk_at "ABH"
      refine wo_of (subL (g.get hjs (by simp)) hb (hget z hz)) ?_
      walk_at "ABH"
      refine wo_of (subT (v := (sat ss z).1.v) (by rfl) (by rfl)) ?_
      walk_at "ABH"
      refine weight_ok _ (by omega) fun σ6 g6 => ?_
      walk_at "ABH"
      refine wo_of (subL ((g.trans g6).get hjs (by simp)) hb (hget z hz)) ?_
      walk_at "ABH"
      refine wo_of (subT (v := (sat ss z).2.v) (by rfl) (by rfl)) ?_
      walk_at "ABH"
      refine weight_ok _ (by omega) fun σ7 g7 => ?_
      walk_at "ABH"
      refine wo_of (addI _ _) ?_
      walk_at "ABH"
      exact ⟨g6.trans g7, by rw [List.getElem?_map, List.getElem?_map, hz1]; rfl⟩
    walk_at "ABH"
    refine w2_of (sumL getEnd (by simp)) ?_
    walk_at "ABH"
    refine wo_of (ltI _ _) ?_
    walk_at "ABH"
    refine wo_of (truB _) ?_
    walk_at "ABH"
    have c16 : (Int.ofNat 16 : Int) = 16 := rfl
    have g5' : Gr [] σs (σ5 ++ [Cell.list (intsV ([m].map fun y => (sat ss y).1.w + (sat ss y).2.w))]) := g5.trans Gr.app
    (try dsimp only)
    generalize (σ5 ++ [Cell.list (intsV ([m].map fun y => (sat ss y).1.w + (sat ss y).2.w))]) = σ8 at g5' ⊢
    have hF8 : Feed i rr (k + 1 + 1 + 1) σ8 := hFs.gr g5' (by simp) (by simp)
    have g8 : Gr [i] σ σ8 := gS.trans g5'.none
    by_cases hlt : ([m].map fun y => (sat ss y).1.w + (sat ss y).2.w).sum < 16
    · walk_at "ABH"
      refine ifTT (by rw [c16, decide_eq_true]; omega) ?_
      walk_at "ABH"
      have hs8 := g5'.get hsl (by simp)
      have hj8 := g5'.get hjs (by simp)
      walk_at "ABH"
      refine wl_map (items := intsV [m]) (ws := [m].map fun y => (sat ss y).1.v) (src_list hs8 (by simp)) (by simp) (by simp) (fun y v hy => ?_) ?_
      walk_at "ABH"
      · obtain ⟨z, hz1, hz, rfl⟩ := hzip y v hy
        walk_at "ABH"
        refine wo_of (subL hj8 hb (hget z hz)) ?_
        walk_at "ABH"
        refine wo_of (subT (v := (sat ss z).1.v) (by rfl) (by rfl)) ?_
        walk_at "ABH"
        exact ⟨by trivial, by rw [List.getElem?_map, hz1]; rfl⟩
      have g9 : Gr [] σ8 (σ8 ++ [Cell.list ([m].map fun y => (sat ss y).1.v)]) := Gr.app
      walk_at "ABH"
      refine wl_map (items := intsV [m]) (ws := [m].map fun y => (sat ss y).2.v) (src_list (g9.get hs8 (by simp)) (by simp)) (by simp) (by simp) (fun y v hy => ?_) ?_
      walk_at "ABH"
      · obtain ⟨z, hz1, hz, rfl⟩ := hzip y v hy
        walk_at "ABH"
        refine wo_of (subL (g9.get hj8 (by simp)) hb (hget z hz)) ?_
        walk_at "ABH"
        refine wo_of (subT (v := (sat ss z).2.v) (by rfl) (by rfl)) ?_
        walk_at "ABH"
        exact ⟨by trivial, by rw [List.getElem?_map, hz1]; rfl⟩
      have g10 : Gr [] (σ8 ++ [Cell.list ([m].map fun y => (sat ss y).1.v)]) (σ8 ++ [Cell.list ([m].map fun y => (sat ss y).1.v)] ++ [Cell.list ([m].map fun y => (sat ss y).2.v)]) := Gr.app
      walk_at "ABH"
      refine w2_of (tupleL ((g9.trans g10).get hs8 (by simp)) (by simp)) ?_
      walk_at "ABH"
      refine w2_of (tupleL (g10.get getEnd (by simp)) (by simp)) ?_
      walk_at "ABH"
      refine wo_of (addT (by rfl)) ?_
      walk_at "ABH"
      refine w2_of (tupleL getEnd (by simp)) ?_
      walk_at "ABH"
      refine wo_of (addT (by rfl)) ?_
      walk_at "ABH"
      have gg := g9.trans g10
      have hF10 : Feed i rr (k + 1 + 1 + 1) (σ8 ++ [Cell.list ([m].map fun y => (sat ss y).1.v)] ++ [Cell.list ([m].map fun y => (sat ss y).2.v)]) := hF8.gr gg (by simp) (by simp)
      have hsum := hlt
      simp only [List.map_cons, List.map_nil, List.sum_cons, List.sum_nil] at hsum
      have w1 := (sat ss m).1.pos
      have w2 := (sat ss m).2.pos
      exact q (.un1 m) ((.g1 (sat ss m).1, .g1 (sat ss m).2)) _ _ hlm rfl (by simp only [Tm.w]; omega) hF10 (by omega) (g8.trans gg.none)
    · walk_at "ABH"
      refine ifTF (by rw [c16, decide_eq_false]; omega) ?_
      walk_at "ABH"
      exact turn _ _ hF8 (by omega) g8
  · walk_at "ABH"
    refine ifTF (by rw [beq_eq_false_iff_ne]; have : (Int.ofNat 0 : Int) = 0 := rfl; omega) ?_
    walk_at "ABH"
    refine w2_of (lenL (g13.get hj hjn) (by simp; omega)) ?_
    walk_at "ABH"
    rw [List.length_map]
    walk_at "ABH"
    refine pick_ok (by omega) F3 (by omega) (by omega) fun z σ4 hz' F4 g4 => ?_
    walk_at "ABH"
    have hz' : z < ss.length := by omega
    generalize hσs : (σ4 ++ [Cell.list [V.int (m : Nat), V.int (z : Nat)]]) = σs
    have gA : Gr [] σ4 σs := hσs ▸ Gr.app
    have gS : Gr [i] σ σs := (g13.trans g4).trans gA.none
    have hFs : Feed i rr (k + 1 + 1 + 1 + 1) σs := F4.gr gA (by simp) (by simp)
    have hsl : σs[σ4.length]? = some (.list (intsV [m, z])) := hσs ▸ getEnd
    have hjs := gS.get hj hjn
    have hlm : ∀ u ∈ [m, z], u < ss.length := (by simp; exact ⟨hm', hz'⟩)
    have hzip : ∀ (y : Nat) (v : V), (intsV [m, z])[y]? = some v → ∃ u, [m, z][y]? = some u ∧ u < ss.length ∧ v = .int (u : Nat) := fun y v hy => by
      rw [List.getElem?_map, Option.map_eq_some_iff] at hy
      obtain ⟨u, hz, rfl⟩ := hy
      exact ⟨u, hz, hlm u (List.mem_of_getElem? hz), rfl⟩
    walk_at "ABH"
    refine wl_grow (items := intsV [m, z]) (ws := intsV ([m, z].map fun y => (sat ss y).1.w + (sat ss y).2.w)) (fun σ' g => src_list (g.get hsl (by simp)) (by simp)) (by simp) (by simp) (fun y v σ' g hy => ?_) fun σ5 g5 => ?_
    walk_at "ABH"
    · obtain ⟨u, hz1, hz, rfl⟩ := hzip y v hy
      have hwz := hsw u hz
      walk_at "ABH"
      refine wo_of (subL (g.get hjs (by simp)) hb (hget u hz)) ?_
      walk_at "ABH"
      refine wo_of (subT (v := (sat ss u).1.v) (by rfl) (by rfl)) ?_
      walk_at "ABH"
      refine weight_ok _ (by omega) fun σ6 g6 => ?_
      walk_at "ABH"
      refine wo_of (subL ((g.trans g6).get hjs (by simp)) hb (hget u hz)) ?_
      walk_at "ABH"
      refine wo_of (subT (v := (sat ss u).2.v) (by rfl) (by rfl)) ?_
      walk_at "ABH"
      refine weight_ok _ (by omega) fun σ7 g7 => ?_
      walk_at "ABH"
      refine wo_of (addI _ _) ?_
      walk_at "ABH"
      exact ⟨g6.trans g7, by rw [List.getElem?_map, List.getElem?_map, hz1]; rfl⟩
    walk_at "ABH"
    refine w2_of (sumL getEnd (by simp)) ?_
    walk_at "ABH"
    refine wo_of (ltI _ _) ?_
    walk_at "ABH"
    refine wo_of (truB _) ?_
    walk_at "ABH"
    have c16 : (Int.ofNat 16 : Int) = 16 := rfl
    have g5' : Gr [] σs (σ5 ++ [Cell.list (intsV ([m, z].map fun y => (sat ss y).1.w + (sat ss y).2.w))]) := g5.trans Gr.app
    (try dsimp only)
    generalize (σ5 ++ [Cell.list (intsV ([m, z].map fun y => (sat ss y).1.w + (sat ss y).2.w))]) = σ8 at g5' ⊢
    have hF8 : Feed i rr (k + 1 + 1 + 1 + 1) σ8 := by
      obtain ⟨a, ⟨l, b, b2⟩, c, d⟩ := hFs
      exact ⟨g5'.get a (by simp), ⟨l, g5'.get b (by simp), b2⟩, c, d⟩
    have g8 : Gr [i] σ σ8 := gS.trans g5'.none
    by_cases hlt : ([m, z].map fun y => (sat ss y).1.w + (sat ss y).2.w).sum < 16
    · walk_at "ABH"
      refine ifTT (by rw [c16, decide_eq_true]; omega) ?_
      walk_at "ABH"
      have hs8 := g5'.get hsl (by simp)
      have hj8 := g5'.get hjs (by simp)
      walk_at "ABH"
      refine wl_map (items := intsV [m, z]) (ws := [m, z].map fun y => (sat ss y).1.v) (src_list hs8 (by simp)) (by simp) (by simp) (fun y v hy => ?_) ?_
      walk_at "ABH"
      · obtain ⟨u, hz1, hz, rfl⟩ := hzip y v hy
        walk_at "ABH"
        refine wo_of (subL hj8 hb (hget u hz)) ?_
        walk_at "ABH"
        refine wo_of (subT (v := (sat ss u).1.v) (by rfl) (by rfl)) ?_
        walk_at "ABH"
        exact ⟨by trivial, by rw [List.getElem?_map, hz1]; rfl⟩
      have g9 : Gr [] σ8 (σ8 ++ [Cell.list ([m, z].map fun y => (sat ss y).1.v)]) := Gr.app
      walk_at "ABH"
      refine wl_map (items := intsV [m, z]) (ws := [m, z].map fun y => (sat ss y).2.v) (src_list (g9.get hs8 (by simp)) (by simp)) (by simp) (by simp) (fun y v hy => ?_) ?_
      walk_at "ABH"
      · obtain ⟨u, hz1, hz, rfl⟩ := hzip y v hy
        walk_at "ABH"
        refine wo_of (subL (g9.get hj8 (by simp)) hb (hget u hz)) ?_
        walk_at "ABH"
        refine wo_of (subT (v := (sat ss u).2.v) (by rfl) (by rfl)) ?_
        walk_at "ABH"
        exact ⟨by trivial, by rw [List.getElem?_map, hz1]; rfl⟩
      have g10 : Gr [] (σ8 ++ [Cell.list ([m, z].map fun y => (sat ss y).1.v)]) (σ8 ++ [Cell.list ([m, z].map fun y => (sat ss y).1.v)] ++ [Cell.list ([m, z].map fun y => (sat ss y).2.v)]) := Gr.app
      walk_at "ABH"
      refine w2_of (tupleL ((g9.trans g10).get hs8 (by simp)) (by simp)) ?_
      walk_at "ABH"
      refine w2_of (tupleL (g10.get getEnd (by simp)) (by simp)) ?_
      walk_at "ABH"
      refine wo_of (addT (by rfl)) ?_
      walk_at "ABH"
      refine w2_of (tupleL getEnd (by simp)) ?_
      walk_at "ABH"
      refine wo_of (addT (by rfl)) ?_
      walk_at "ABH"
      have gg := g9.trans g10
      have hF10 : Feed i rr (k + 1 + 1 + 1 + 1) (σ8 ++ [Cell.list ([m, z].map fun y => (sat ss y).1.v)] ++ [Cell.list ([m, z].map fun y => (sat ss y).2.v)]) := hF8.gr gg (by simp) (by simp)
      have hsum := hlt
      simp only [List.map_cons, List.map_nil, List.sum_cons, List.sum_nil] at hsum
      have w1 := (sat ss m).1.pos
      have w2 := (sat ss m).2.pos
      have w3 := (sat ss z).1.pos
      have w4 := (sat ss z).2.pos
      exact q (.un2 m z) ((.g2 (sat ss m).1 (sat ss z).1, .g2 (sat ss m).2 (sat ss z).2)) _ _ hlm rfl (by simp only [Tm.w]; omega) hF10 (by omega) (g8.trans gg.none)
    · walk_at "ABH"
      refine ifTF (by rw [c16, decide_eq_false]; omega) ?_
      walk_at "ABH"
      exact turn _ _ hF8 (by omega) g8


mutual
theorem V.beq_refl : ∀ v : V, V.beq v v = true
  | .none => rfl
  | .bool a => by simp [V.beq]
  | .int a => by simp [V.beq]
  | .str a => by simp [V.beq]
  | .tup a => by simp only [V.beq]; exact V.beqs_refl a
  | .rng a b c => by simp [V.beq]
  | .ref a => by simp [V.beq]
  | .obj a c => by simp [V.beq]
  | .told => rfl
  | .frz l => by simp [V.beq]
theorem V.beqs_refl : ∀ l : List V, V.beqs l l = true
  | [] => rfl
  | a :: r => by simp only [V.beqs, V.beq_refl a, V.beqs_refl r, Bool.and_self]
end
theorem eqSame {σ : Store} {a b : Nat} {vs : List V} (ha : σ[a]? = some (.list vs)) (hb : σ[b]? = some (.list vs)) (hp : V.pures 40 vs = true) (hl : vs.length ≤ 100) :
    cmpOp σ .Eq (.ref a) (.ref b) = some (.bool true) ∧ cmpOp σ .NotEq (.ref a) (.ref b) = some (.bool false) := by
  have h : vs.length ≤ big := by have : big = 4096 := rfl; omega
  have e := eqV_lists ha hb hp hp h h
  rw [V.beqs_refl] at e
  exact ⟨by show (eqV σ (.ref a) (.ref b)).map V.bool = _; rw [e]; rfl, by show (eqV σ (.ref a) (.ref b)).map (fun x => V.bool (!x)) = _; rw [e]; rfl⟩
theorem neSameT {σ : Store} {v : V} (hp : V.pure 40 v = true) : cmpOp σ .NotEq v v = some (.bool false) := by
  show (eqV σ v v).map (fun x => V.bool (!x)) = _
  rw [eqV_pure hp hp, V.beq_refl]; rfl
theorem Rw.pure (r : Rw) : V.pure 40 r.v = true := by
  have s1 := fun n => okS_pure (l := [115, 97, 109, 101]) rfl n
  have s2 := fun n => okS_pure (l := [116, 111, 108, 100]) rfl n
  have s3 := fun n => okS_pure (l := [116, 117, 114, 110]) rfl n
  have s4 := fun n => okS_pure (l := [106, 111, 105, 110]) rfl n
  have s5 := fun n => okS_pure (l := [117, 110, 100, 101, 114]) rfl n
  have s6 := fun n => okS_pure (l := [103]) rfl n
  cases r with
  | same => exact pure_tup (by simp) (by simp only [V.pures, s1, Bool.true_and, Bool.and_true]; exact Tm.pure .a 39 (by decide))
  | told u => exact pure_tup (by simp) (by simp only [V.pures, s2, Bool.true_and, Bool.and_true]; cases u <;> exact okS_pure rfl _)
  | turn n => exact pure_tup (by simp) (by simp only [V.pures, s3, Bool.true_and, Bool.and_true]; rfl)
  | join n m => exact pure_tup (by simp) (by simp only [V.pures, s4, Bool.true_and, Bool.and_true]; rfl)
  | un1 n => exact pure_tup (by simp) (by simp only [V.pures, s5, s6, Bool.true_and, Bool.and_true]; exact pure_tup (by simp) (pures_ints _ [n]))
  | un2 n m => exact pure_tup (by simp) (by simp only [V.pures, s5, s6, Bool.true_and, Bool.and_true]; exact pure_tup (by simp) (pures_ints _ [n, m]))
theorem pures_rows (rs : List Rw) : V.pures 40 (rs.map Rw.v) = true := by
  induction rs with
  | nil => rfl
  | cons r rs ih => simp only [List.map_cons, V.pures, r.pure, ih, Bool.and_self]
theorem pv_pure {p : Tm × Tm} (h : p.1.w ≤ 39 ∧ p.2.w ≤ 39) : V.pure 40 (pv p) = true :=
  pure_tup (by simp) (by simp only [V.pures, p.1.pure 39 h.1, p.2.pure 39 h.2, Bool.and_self])

/-! the rows anew -/
theorem sd_ren (r : Rw) (f : Nat → Nat) (l : List (Tm × Tm)) : sd (r.ren f) l = sd r l := by
  cases r <;> (rcases l with _ | ⟨a, _ | ⟨b, _ | ⟨c, d⟩⟩⟩ <;> rfl)
theorem fresh_get {rs : List Rw} {ds : List Nat} {k d : Nat} (h : ds[k]? = some d) : (fresh rs ds)[k]? = some ((rget rs d).ren ds.idxOf) := by
  simp only [fresh, List.getElem?_map, h, Option.map_some]
theorem idx_take {ds : List Nat} {k x : Nat} (hn : ds.Nodup) (h : x ∈ ds.take k) : ds.idxOf x < k ∧ ds.idxOf x < ds.length := by
  obtain ⟨i, hi, rfl⟩ := List.getElem_of_mem h
  rw [List.length_take] at hi
  rw [List.getElem_take, hn.idxOf_getElem i (by omega)]
  omega
theorem fresh_val {rs : List Rw} {ds : List Nat} (C : Clo rs ds) : Val (fresh rs ds) := fun k r h m hm => by
  have hk : k < ds.length := by have := (List.getElem?_eq_some_iff.mp h).1; simpa [fresh] using this
  have e : ds[k]? = some ds[k] := List.getElem?_eq_getElem hk
  rw [fresh_get e] at h
  cases h
  rw [ren_over] at hm
  obtain ⟨x, hx, rfl⟩ := List.mem_map.mp hm
  exact (idx_take C.nodup ((C.at_ k _ e).2 x hx)).1
theorem fresh_sd {rs : List Rw} {ss : List (Tm × Tm)} {ds : List Nat} (C : Clo rs ds) (S : Sd rs ss) : Sd (fresh rs ds) (ds.map (sat ss)) := by
  refine ⟨by simp [fresh], fun k r h => ?_, fun p hp => ?_⟩
  walk_at "ABH"
  · have hk : k < ds.length := by have := (List.getElem?_eq_some_iff.mp h).1; simpa [fresh] using this
    have e : ds[k]? = some ds[k] := List.getElem?_eq_getElem hk
    rw [fresh_get e] at h
    cases h
    obtain ⟨hd, ho⟩ := C.at_ k _ e
    have hr : rs[ds[k]]? = some (rget rs ds[k]) := by simp [rget, hd]
    have hs := S.at_ _ _ hr
    rw [ren_over, sd_ren, List.map_map]
    have e2 : (rget rs ds[k]).over.map (sat (ds.map (sat ss)) ∘ ds.idxOf) = (rget rs ds[k]).over.map (sat ss) := by
      refine List.map_congr_left fun x hx => ?_
      walk_at "ABH"
      have hx2 := ho x hx
      have hi := (idx_take C.nodup hx2).2
      simp only [Function.comp, sat, List.getD_eq_getElem?_getD, List.getElem?_map, List.getElem?_eq_getElem hi, Option.map_some, Option.getD_some, List.getElem_idxOf hi]
    rw [e2, hs]
    simp only [sat, List.getD_eq_getElem?_getD, List.getElem?_map, e, Option.map_some, Option.getD_some]
  · obtain ⟨d, hd, rfl⟩ := List.mem_map.mp hp
    obtain ⟨i, hi, rfl⟩ := List.getElem_of_mem hd
    have := (C.at_ i _ (List.getElem?_eq_getElem hi)).1
    exact S.light _ (List.mem_of_getElem? (sat_get (by rw [S.len]; exact this)))
theorem rc_last {rs : List Rw} {last : Nat} {ds : List Nat} (h : IsRc rs last ds) (hv : Val rs) : 0 < ds.length ∧ ds[ds.length - 1]? = some last := by
  have hm : last ∈ ds := (h.iff last).mpr .refl
  obtain ⟨i, hi, e⟩ := List.getElem_of_mem hm
  have h0 : 0 < ds.length := by omega
  refine ⟨h0, ?_⟩
  walk_at "ABH"
  have hl : ds.length - 1 < ds.length := by omega
  by_cases hc : i = ds.length - 1
  · subst hc; rw [List.getElem?_eq_getElem hi, e]
  · have h1 := (List.pairwise_iff_getElem.mp h.asc) i (ds.length - 1) hi hl (by omega)
    have h2 := ((h.iff _).mp (List.getElem_mem hl)).le hv
    omega
theorem fresh_all {rs : List Rw} {last : Nat} {ds : List Nat} (h : IsRc rs last ds) (hv : Val rs) (hl : last < rs.length) : IsRc (fresh rs ds) (ds.length - 1) (List.range ds.length) := by
  have C := h.clo hv hl
  obtain ⟨h0, hlast⟩ := rc_last h hv
  have hn := C.nodup
  have step : ∀ d, Rc rs last d → Rc (fresh rs ds) (ds.length - 1) (ds.idxOf d) := fun d hd => by
    induction hd with
    | refl =>
      obtain ⟨hi, e⟩ := List.getElem?_eq_some_iff.mp hlast
      have : ds.idxOf last = ds.length - 1 := by rw [← e]; exact hn.idxOf_getElem _ hi
      rw [this]; exact .refl
    | step hd hm ih =>
      rename_i d m
      refine ih.step (d := ds.idxOf d) ?_
      walk_at "ABH"
      have hdm := (h.iff d).mpr hd
      have hi := List.idxOf_lt_length_of_mem hdm
      have e : ds[ds.idxOf d]? = some d := by rw [List.getElem?_eq_getElem hi, List.getElem_idxOf hi]
      have := fresh_get (rs := rs) e
      rw [rget_get this, ren_over]
      exact List.mem_map.mpr ⟨m, hm, rfl⟩
  refine ⟨List.pairwise_lt_range, fun x => ⟨fun hx => ?_, fun hx => ?_⟩⟩
  walk_at "ABH"
  · have hx' : x < ds.length := by simpa using hx
    have := step ds[x] ((h.iff _).mp (List.getElem_mem hx'))
    rwa [hn.idxOf_getElem x hx'] at this
  · have := hx.le (fresh_val C)
    simp; omega

theorem trimmed_ok {n j kl kj : Nat} {rs : List Rw} {ss : List (Tm × Tm)} {σ : Store} {P : V → Store → Prop} (hn : 200 ≤ n) (hL : LinesAt σ kl kj) (hJ : JudgeAt σ kj) (hj : σ[j]? = some (.list (rs.map Rw.v))) (hl : rs.length ≤ 50) (h0 : 1 ≤ rs.length) (hv : Val rs) (S : Sd rs ss)
    (q : ∀ σ' L ds, Gr [] σ σ' → σ.length ≤ L → IsRc rs (rs.length - 1) ds → σ'[L]? = some (.list ((fresh rs ds).map Rw.v)) → P (.ref L) σ') : WC n 20 [.obj kl 1, .ref j] σ P := by
  obtain ⟨n, rfl⟩ := fuel hn
  refine wc_step fn20.2 rfl ?_
  dsimp only [fn20]
  walk_at "ABH"
  refine wm_obj (f := 19) hL (by rfl) (by rfl) (proved_ok (by omega) hL hJ hj hl h0 hv S fun v σ1 g1 => ?_)
  walk_at "ABH"
  have hj1 := g1.get hj (by simp)
  walk_at "ABH"
  refine w2_of (lenL hj1 (by simp; omega)) ?_
  walk_at "ABH"
  rw [List.length_map]
  walk_at "ABH"
  refine wo_of (subI _ _) ?_
  walk_at "ABH"
  have e1 : ((rs.length : Nat) : Int) - Int.ofNat 1 = ((rs.length - 1 : Nat) : Int) := by
    have : (Int.ofNat 1 : Int) = 1 := rfl
    omega
  (try dsimp only)
  rw [e1]
  walk_at "ABH"
  refine used_ok (by omega) hj1 hl hv (by omega) fun σ2 L ds g2 hL2 hds hrc => ?_
  walk_at "ABH"
  have C := hrc.clo hv (by omega)
  have hdl : ds.length ≤ rs.length := bounded C.nodup fun x hx => by have := ((hrc.iff x).mp hx).le hv; omega
  walk_at "ABH"
  refine numbered_ok (by omega) (g2.get hj1 (by simp)) hl hds (by omega) C fun σ3 L3 g3 hL3 hf => ?_
  walk_at "ABH"
  exact q _ _ ds ((g1.trans g2).trans g3) (by have := g1.1; have := g2.1; omega) hrc hf

theorem setA {σ : Store} {k c a : Nat} {fs : List (Nat × V)} {v : V} (h : σ[k]? = some (.inst fs)) (hc : c < 2) (hl : Nat.ble fs.length 20 = true) : setAttrOp σ (.obj k c) a v = some (σ.set k (.inst (putA a v fs))) := by
  exact show (if c < 2 then (match σ[k]? with | some (.inst fs) => if fs.length ≤ 20 then some (σ.set k (.inst (putA a v fs))) else none | _ => none) else none) = _ from
    (if_pos hc).trans (on_inst (f := fun fs => if fs.length ≤ 20 then some (σ.set k (.inst (putA a v fs))) else none) h (if_pos (Nat.le_of_ble_eq_true hl)))
theorem judge_init {n k d : Nat} {σ : Store} {P : V → Store → Prop} (hn : 10 ≤ n) (h : σ[k]? = some (.inst [])) (q : ∀ σ', Gr [k] σ σ' → JudgeAt σ' k → P .none σ') : WC n 13 [.obj k 0, .ref d, .told] σ P := by
  obtain ⟨n, rfl⟩ := fuel hn
  refine wc_step fn13.2 rfl ?_
  dsimp only [fn13]
  walk_at "ABH"
  refine wo_of (setA h (by decide) (by rfl)) ?_
  walk_at "ABH"
  have h2 := getSet (c' := .inst (putA 42 (.ref d) [])) h
  walk_at "ABH"
  refine wo_of (setA h2 (by decide) (by rfl)) ?_
  walk_at "ABH"
  exact q _ (Gr.set.trans Gr.set) ⟨d, getSet h2⟩
theorem lines_init {n k kj : Nat} {σ : Store} {P : V → Store → Prop} (hn : 10 ≤ n) (h : σ[k]? = some (.inst [])) (q : ∀ σ', Gr [k] σ σ' → LinesAt σ' k kj → P .none σ') : WC n 16 [.obj k 1, .obj kj 0] σ P := by
  obtain ⟨n, rfl⟩ := fuel hn
  refine wc_step fn16.2 rfl ?_
  dsimp only [fn16]
  walk_at "ABH"
  refine wo_of (setA h (by decide) (by rfl)) ?_
  walk_at "ABH"
  exact q _ Gr.set (getSet h)


theorem uptoL {σ : Store} {n k : Nat} {vs : List V} (h : σ[n]? = some (.list vs)) (hb : vs.length ≤ 100) : uptoOp σ (.ref n) (.int (Int.ofNat k)) = some (.ref σ.length, σ ++ [.list (vs.take k)]) :=
  on_list (f := fun vs => if 0 ≤ Int.ofNat k ∧ vs.length ≤ big then some (V.ref σ.length, σ ++ [Cell.list (vs.take k)]) else none) h (if_pos ⟨Int.natCast_nonneg k, le_big hb⟩)
theorem uptoF {σ : Store} {k : Nat} {l : List Int} (hb : l.length ≤ 100) : uptoOp σ (.frz l) (.int (Int.ofNat k)) = some (.ref σ.length, σ ++ [.list ((l.map V.int).take k)]) :=
  show (if 0 ≤ Int.ofNat k ∧ l.length ≤ big then some (V.ref σ.length, σ ++ [Cell.list ((l.map V.int).take k)]) else none) = _ from if_pos ⟨Int.natCast_nonneg k, le_big hb⟩
theorem listL {σ : Store} {n : Nat} {vs : List V} (h : σ[n]? = some (.list vs)) (hb : vs.length ≤ 100) : biOp σ .list [.ref n] = some (.ref σ.length, σ ++ [.list vs]) :=
  on_list (f := fun vs => if vs.length ≤ big then some (V.ref σ.length, σ ++ [Cell.list vs]) else none) h (if_pos (le_big hb))
theorem modI {x : Int} : binOp .Mod (.int x) (.int (Int.ofNat 1000003)) = some (.int (Int.fmod x (Int.ofNat 1000003))) :=
  show (if (0 : Int) < Int.ofNat 1000003 then some (V.int (Int.fmod x (Int.ofNat 1000003))) else none) = _ from if_pos (by decide)
theorem listR {σ : Store} {n : Nat} (h : n ≤ 100) : biOp σ .list [.rng 0 (n : Nat) 1] = some (.ref σ.length, σ ++ [.list (intsV (List.range n))]) := by
  have h1 : small (n : Int) = true := by simp only [small, decide_eq_true_eq]; omega
  have h2 : rngLen 0 (n : Int) 1 = n := by simp [rngLen]
  have e : rngItems 0 (n : Int) 1 = intsV (List.range n) := by simp [rngItems, h2, intsV]
  show (if (decide ((1 : Int) = 1) && small 0 && small n && decide (rngLen 0 n 1 ≤ big)) = true then some (V.ref σ.length, σ ++ [Cell.list (rngItems 0 n 1)]) else none) = _
  rw [h1, h2, e, decide_eq_true (le_big h)]
  rfl
theorem lastL {σ : Store} {n : Nat} {vs : List V} {v : V} (h : σ[n]? = some (.list vs)) (hb : vs.length ≤ 100) (e : vs.getLast? = some v) : subOp σ (.ref n) (.int (-Int.ofNat 1)) = some v :=
  on_two1 (f := fun vs => if vs.length ≤ big then (if (-Int.ofNat 1 : Int) = -1 then vs.getLast? else seqAt vs (-Int.ofNat 1)) else none) (g := fun kvs => lookI (-Int.ofNat 1) kvs) h ((if_pos (le_big hb)).trans ((if_pos rfl).trans e))

theorem sat_app {ss : List (Tm × Tm)} {p : Tm × Tm} {m : Nat} (h : m < ss.length) : sat (ss ++ [p]) m = sat ss m := by
  simp [sat, List.getD_eq_getElem?_getD, List.getElem?_append_left h]
theorem sat_end {ss : List (Tm × Tm)} {p : Tm × Tm} : sat (ss ++ [p]) ss.length = p := by
  simp [sat, List.getD_eq_getElem?_getD]
theorem sd_app {rs : List Rw} {ss : List (Tm × Tm)} {r : Rw} {p : Tm × Tm} (S : Sd rs ss) (hv : Val rs) (ho : ∀ m ∈ r.over, m < ss.length) (hp : sd r (r.over.map (sat ss)) = some p) (hw : p.1.w ≤ 16 ∧ p.2.w ≤ 16) : Sd (rs ++ [r]) (ss ++ [p]) ∧ Val (rs ++ [r]) := by
  have hlen := S.len
  have cong : ∀ l : List Nat, (∀ m ∈ l, m < ss.length) → l.map (sat (ss ++ [p])) = l.map (sat ss) := fun l h => List.map_congr_left fun m hm => sat_app (h m hm)
  refine ⟨⟨by simp [hlen], fun k r' h => ?_, fun p' hp' => ?_⟩, fun k r' h m hm => ?_⟩
  walk_at "ABH"
  · by_cases hk : k < rs.length
    · rw [List.getElem?_append_left hk] at h
      have h2 := S.at_ k r' h
      rw [cong _ fun m hm => by have := hv k r' h m hm; omega, sat_app (by omega)]
      exact h2
    · have hk2 : k = rs.length := by have := (List.getElem?_eq_some_iff.mp h).1; simp at this; omega
      subst hk2
      simp at h
      subst h
      rw [cong _ ho, ← hlen, sat_end]
      exact hp
  · rcases List.mem_append.mp hp' with h | h
    · exact S.light _ h
    · simp at h; subst h; omega
  · by_cases hk : k < rs.length
    · rw [List.getElem?_append_left hk] at h
      exact hv k r' h m hm
    · have hk2 : k = rs.length := by have := (List.getElem?_eq_some_iff.mp h).1; simp at this; omega
      subst hk2
      simp at h
      subst h
      have := ho m hm; omega

theorem ofN1 {n : Nat} (h : 0 < n) : (n : Int) - Int.ofNat 1 = ((n - 1 : Nat) : Int) := by
  have : (Int.ofNat 1 : Int) = 1 := rfl
  omega
inductive LI (a : Nat) (k : Nat) (ρ : Loc) (σ' : Store) : Prop
  | mk {rs : List Rw} {ss : List (Tm × Tm)} {k' : Nat} (h0 : ρ 0 = some (.ref 2)) (h16 : ρ 16 = some (.ref a)) (h7 : ρ 7 = some (.ref (a + 1))) (F : Feed 2 1 k' σ') (hk : k' ≤ 10 + 12 * k) (hrs : σ'[a]? = some (.list (rs.map Rw.v))) (hss : σ'[a + 1]? = some (.list (ss.map pv)))
      (hl : rs.length = k + 1) (hv : Val rs) (S : Sd rs ss) (hw : ∀ p ∈ ss, p.1.w ≤ 16 ∧ p.2.w ≤ 16) : LI a k ρ σ'
inductive LJ (a kl wa : Nat) (σ8 : Store) (k : Nat) (ρ : Loc) (σ' : Store) : Prop
  | mk (g : Gr [] σ8 σ') (h16 : ρ 16 = some (.ref a)) (h7 : ρ 7 = some (.ref (a + 1))) (h25 : ρ 25 = some (.obj kl 1)) (h26 : ρ 26 = some (.ref wa)) : LJ a kl wa σ8 k ρ σ'
theorem law_ok (xs : List Int) (hx : xs.length ≤ 63) : WXs 300 fn21.1.body (bindAll [21] [.frz xs] fun _ => none) [] fun fl _ _ => fl = .ret (.bool true) := by
  dsimp only [fn21]
  walk_at "ABH"
  refine w2_of (uptoF (σ := []) (l := xs) (k := 50) (by omega)) ?_
  walk_at "ABH"
  (try dsimp only)
  generalize hσa : (([] : Store) ++ [Cell.list ((xs.map V.int).take 50)] : Store) = σa
  have hsa : σa[0]? = some (.list ((xs.map V.int).take 50)) := by rw [← hσa]; rfl
  have hla : σa.length = 1 := by rw [← hσa]; rfl
  have h50 : (xs.take 50).length ≤ 50 := by rw [List.length_take]; exact Nat.min_le_left _ _
  walk_at "ABH"
  refine wl_map (items := (xs.map V.int).take 50) (ws := ((xs.take 50).map fun x => Int.fmod x (Int.ofNat 1000003)).map .int) (src_list hsa (by simp; omega)) (by simp; omega) (by simp) (fun k v hk => ?_) ?_
  walk_at "ABH"
  · rw [← List.map_take, List.getElem?_map, Option.map_eq_some_iff] at hk
    obtain ⟨x, hk, rfl⟩ := hk
    walk_at "ABH"
    refine w2_of (a := V.int x) (b := σa) rfl ?_
    walk_at "ABH"
    refine wo_of modI ?_
    walk_at "ABH"
    exact ⟨by trivial, by rw [List.getElem?_map, List.getElem?_map, hk]; rfl⟩
  walk_at "ABH"
  refine wo_of rfl ?_
  walk_at "ABH"
  (try dsimp only)
  rw [hla]
  generalize hσb : (σa ++ [Cell.list (((xs.take 50).map fun x => Int.fmod x (Int.ofNat 1000003)).map .int)] ++ [Cell.dictS (putS [97, 116] (V.int (Int.ofNat 0)) [([114, 111, 119], V.ref 1)])]) = σb
  have F0 : Feed 2 1 0 σb := by
    refine ⟨?_, ⟨(xs.take 50).map fun x => Int.fmod x (Int.ofNat 1000003), ?_, by simp; omega, fun y hy => ?_⟩, by omega, by decide⟩
    walk_at "ABH"
    · rw [← hσb, ← hσa]; rfl
    · rw [← hσb, ← hσa]; rfl
    · obtain ⟨x, _, rfl⟩ := List.mem_map.mp hy
      exact Int.fmod_nonneg_of_pos x (by decide)
  have hlb : σb.length = 3 := by rw [← hσb]; simp [hla]
  have e3 : (σa ++ [Cell.list (((xs.take 50).map fun x => Int.fmod x (Int.ofNat 1000003)).map .int)]).length = 2 := by simp [hla]
  rw [e3]
  walk_at "ABH"
  refine leaf_ok (by omega) F0 (by omega) fun r p σ1 ho hsd hpw F1 g1 => ?_
  walk_at "ABH"
  refine wo_of (a := [r.v, pv p]) rfl ?_
  walk_at "ABH"
  walk_at "ABH"
  have eb : (σ1 ++ [Cell.list [r.v]]).length = σ1.length + 1 := by simp
  rw [eb]
  generalize hσ2 : (σ1 ++ [Cell.list [r.v]] ++ [Cell.list [pv p]]) = σ2
  have gA : Gr [] σ1 σ2 := hσ2 ▸ Gr.app.trans Gr.app
  have F2 := F1.gr gA (by simp) (by simp)
  have hl1 : 3 ≤ σ1.length := hlb ▸ g1.1
  have ha2 : σ2[σ1.length]? = some (.list ([r].map Rw.v)) := hσ2 ▸ (Gr.app (S := [])).get getEnd (by simp)
  have hb2 : σ2[σ1.length + 1]? = some (.list ([p].map pv)) := by rw [← hσ2, ← eb]; exact getEnd
  clear hσ2 eb
  generalize σ1.length = a at hl1 ha2 hb2 ⊢
  have na : a ∉ [2] := notin1 (by omega)
  have nb : a + 1 ∉ [2] := notin1 (by omega)
  have nc : a + 1 ∉ [a] := notin1 (Nat.succ_ne_self a)
  have nd : 2 ∉ [a] := notin1 (by omega)
  have ne : 2 ∉ [a + 1] := notin1 (by omega)
  have nf : 1 ∉ [a] := notin1 (by omega)
  have ng : 1 ∉ [a + 1] := notin1 (by omega)
  walk_at "ABH"
  refine pick_ok (by omega) F2 (by omega) (by decide) fun x σ3 hx F3 g3 => ?_
  walk_at "ABH"
  refine wo_of (addI _ _) ?_
  walk_at "ABH"
  have c3 : (Int.ofNat 3 : Int) = 3 := rfl
  have c6 : (Int.ofNat 6 : Int) = 6 := rfl
  have ex : Int.ofNat 3 + (x : Int) = ((3 + x : Nat) : Int) := by omega
  rw [ex]
  have hx6 : x < 6 := by omega
  clear hx c3 c6
  walk_at "ABH"
  refine w2_of (rangeN (by omega)) ?_
  walk_at "ABH"
  (try dsimp only)
  walk_at "ABH"
  refine wf_run (items := intsV (List.range (3 + x))) (LI a) _
    (fun k ρ' σ' h => src_rng (by omega)) (fun k ρ' σ' v h hv2 => ?_) (fun ρ' σ' h => ?_) laps 0 _ _
    (.mk (by simp [upd, bindAll]) (by simp [upd, bindAll]) (by simp [upd, bindAll]) (rs := [r]) (ss := [p]) F3 (by omega) (g3.get ha2 na) (g3.get hb2 nb) (by simp) ?_ ?_ ?_) (Nat.zero_le _) (by have : laps = 70 := rfl; simp; omega)
  walk_at "ABH"
  · obtain @⟨rs, ss, k', k0, k16, k7, Fk, hk', hrs, hss, hrl, hv, S, hw⟩ := h
    obtain ⟨hkl, rfl⟩ := range_get hv2
    have hlen := S.len
    have hr50 : rs.length ≤ 50 := by omega
    have hs50 : ss.length ≤ 50 := hlen ▸ hr50
    show WXs _ _ _ _ _
    walk_at "ABH"
    refine row_ok (by omega) Fk (by omega) (by omega) hss (by omega) hs50 hw fun r' p' σ4 k2 ho' hsd' hpw' F4 hk2 g4 => ?_
    walk_at "ABH"
    refine wo_of (a := [r'.v, pv p']) rfl ?_
    walk_at "ABH"
    walk_at "ABH"
    have hrs4 := g4.get hrs na
    have hss4 := g4.get hss nb
    walk_at "ABH"
    refine wm_list hrs4 hrs4 (appL (len50 hr50)) ?_
    walk_at "ABH"
    (try dsimp only)
    have g5 : Gr [a] σ4 (σ4.set a (.list (rs.map Rw.v ++ [r'.v]))) := Gr.set
    have hss5 := g5.get hss4 nc
    walk_at "ABH"
    refine wm_list hss5 hss5 (appL (len50 hs50)) ?_
    walk_at "ABH"
    have g6 : Gr [a + 1] (σ4.set a (.list (rs.map Rw.v ++ [r'.v]))) ((σ4.set a (.list (rs.map Rw.v ++ [r'.v]))).set (a + 1) (.list (ss.map pv ++ [pv p']))) := Gr.set
    obtain ⟨S', hv'⟩ := sd_app S hv ho' hsd' hpw'
    refine .mk (by simp [upd, bindAll, k0]) (by simp [upd, bindAll, k16]) (by simp [upd, bindAll, k7]) (rs := rs ++ [r']) (ss := ss ++ [p']) ((F4.gr g5 nd nf).gr g6 ne ng) (by omega) ?_ ?_ (by simp [hrl]) hv' S' fun q hq => ?_
    walk_at "ABH"
    · rw [List.map_append]; exact g6.get (getSet hrs4) (by simp)
    · rw [List.map_append]; exact getSet hss5
    · rcases List.mem_append.mp hq with h | h
      · exact hw q h
      · simp at h; subst h; exact hpw'
  · obtain @⟨rs, ss, k', k0, k16, k7, Fk, hk', hrs, hss, hrl, hv, S, hw⟩ := h
    simp only [List.length_map, List.length_range] at hk' hrl
    have hlen := S.len
    have hrl50 : rs.length ≤ 50 := by omega
    have hsl50 : ss.length ≤ 50 := hlen ▸ hrl50
    walk_at "ABH"
    refine wo_of rfl ?_
    walk_at "ABH"
    refine wo_of rfl ?_
    walk_at "ABH"
    refine judge_init (by omega) getEnd fun σ5 g5 hJ5 => ⟨rfl, ?_⟩
    walk_at "ABH"
    refine wo_of rfl ?_
    walk_at "ABH"
    refine lines_init (by omega) getEnd fun σ6 g6 hL6 => ⟨rfl, ?_⟩
    walk_at "ABH"
    have gs5 : Gr [] σ' σ5 := (Gr.app.trans Gr.app).hide g5 (by simp)
    have gs56 : Gr [] σ5 σ6 := Gr.app.hide g6 (by simp)
    have gs6 := gs5.trans gs56
    have hJ6 := hJ5.gr gs56
    have hrs6 := gs6.get hrs (by simp)
    walk_at "ABH"
    refine w2_of (listL hrs6 (len50 hrl50)) ?_
    walk_at "ABH"
    have gs7 : Gr [] σ6 (σ6 ++ [Cell.list (rs.map Rw.v)]) := Gr.app
    have hwas7 : (σ6 ++ [Cell.list (rs.map Rw.v)])[σ6.length]? = some (.list (rs.map Rw.v)) := getEnd
    (try dsimp only)
    generalize σ5.length = kl at hL6 ⊢
    generalize (σ' ++ [Cell.dictI []]).length = kj at hJ6 hL6 ⊢
    generalize (σ6 ++ [Cell.list (rs.map Rw.v)]) = σ7 at gs7 hwas7 ⊢
    generalize σ6.length = wa at hwas7 ⊢
    have hL7 : LinesAt σ7 kl kj := gs7.get hL6 (by simp)
    have hJ7 := hJ6.gr gs7
    have hrs7 := gs7.get hrs6 (by simp)
    have hss7 := (gs6.trans gs7).get hss (by simp)
    have F7 := Fk.gr (gs6.trans gs7) (by simp) (by simp)
    walk_at "ABH"
    refine w2_of (lenL hrs7 (len50 hrl50)) ?_
    walk_at "ABH"
    refine wo_of (subI _ _) ?_
    walk_at "ABH"
    refine w2_of (lenL hrs7 (len50 hrl50)) ?_
    walk_at "ABH"
    refine pick_ok (by omega) F7 (by omega) (by simp; omega) fun y σ8 hy F8 g8 => ?_
    walk_at "ABH"
    have hy2 : y < rs.length := by simp at hy; omega
    have hr0 : 0 < rs.length := Nat.lt_of_le_of_lt (Nat.zero_le _) hy2
    have hrm : rs.length - 1 < rs.length := Nat.sub_lt hr0 Nat.zero_lt_one
    have en : (((rs.map Rw.v).length : Nat) : Int) - Int.ofNat 1 = ((rs.length - 1 : Nat) : Int) := by rw [List.length_map]; exact ofN1 hr0
    rw [en]
    have hwa : wa ≠ 2 := fun e => by
      subst e
      have h1 := F7.cell
      rw [hwas7] at h1; cases h1
    have hkl : kl ≠ 2 := fun e => by
      subst e
      have h1 := F7.cell
      unfold LinesAt at hL7
      rw [hL7] at h1; cases h1
    have hkj : kj ≠ 2 := fun e => by
      subst e
      obtain ⟨d, h2⟩ := hJ7
      have h1 := F7.cell
      rw [h2] at h1; cases h1
    have hrs8 := g8.get hrs7 na
    have hss8 := g8.get hss7 nb
    have hwas8 := g8.get hwas7 (notin1 hwa)
    have hL8 : LinesAt σ8 kl kj := g8.get hL7 (notin1 hkl)
    have hJ8 : JudgeAt σ8 kj := by obtain ⟨d, h2⟩ := hJ7; exact ⟨d, g8.get h2 (notin1 hkj)⟩
    clear hwas7 hL7 hJ7 hrs7 hss7 F7 gs7 hrs6 hJ6 gs6 gs56 gs5 hL6 g6 hJ5 g5
    walk_at "ABH"
    refine wf_run (items := intsV [rs.length - 1, y]) (LJ a kl wa σ8) _
      (fun k ρ2 σ9 h => src_tup (by simp)) (fun k ρ2 σ9 v h hv3 => ?_) (fun ρ2 σ9 h => ?_) laps 0 _ _
      ⟨Gr.refl, by simp [upd, bindAll, k16], by simp [upd, bindAll, k7], by simp [upd, bindAll], by simp [upd, bindAll]⟩ (Nat.zero_le _) (by have : laps = 70 := rfl; simp; omega)
    walk_at "ABH"
    · obtain ⟨g9, q16, q7, q25, q26⟩ := h
      obtain ⟨last, hlast, rfl⟩ : ∃ last : Nat, last < rs.length ∧ v = .int (last : Nat) := by
        rw [List.getElem?_map, Option.map_eq_some_iff] at hv3
        obtain ⟨z, hz, rfl⟩ := hv3
        have hz := List.mem_of_getElem? hz
        simp at hz
        exact ⟨z, hz.elim (fun e => e ▸ hrm) (fun e => e ▸ hy2), rfl⟩
      have hrs9 := g9.get hrs8 (by simp)
      have hss9 := g9.get hss8 (by simp)
      have hL9 : LinesAt σ9 kl kj := g9.get hL8 (by simp)
      have hJ9 := hJ8.gr g9
      show WXs _ _ _ _ _
      walk_at "ABH"
      refine marked_ok (by omega) hrs9 hrl50 hv hlast fun σA LA ds gA hLA hds hrc => ?_
      walk_at "ABH"
      have C := hrc.clo hv hlast
      have hbd := bounded (N := rs.length) C.nodup (fun x hx => Nat.lt_of_le_of_lt (((hrc.iff x).mp hx).le hv) hlast)
      have hdl : ds.length ≤ 50 := Nat.le_trans hbd hrl50
      walk_at "ABH"
      refine anew_ok (by omega) (gA.get hrs9 (by simp)) hrl50 hds hdl C fun σB LB gB hLB hfr => ?_
      walk_at "ABH"
      have gAB := gA.trans gB
      walk_at "ABH"
      refine used_ok (by omega) (gAB.get hrs9 (by simp)) hrl50 hv hlast fun σC LC dsC gC hLC hdsC hrcC => ?_
      walk_at "ABH"
      obtain rfl := hrcC.uniq hrc
      have hdsA := (gB.trans gC).get hds (by simp)
      walk_at "ABH"
      refine wo_of (eqSame hdsC hdsA (pures_ints _ _) (len50 hdl)).2 ?_
      walk_at "ABH"
      refine wo_of (truB _) ?_
      walk_at "ABH"
      refine ifFF rfl ?_
      walk_at "ABH"
      refine numbered_ok (by omega) ((gAB.trans gC).get hrs9 (by simp)) hrl50 hdsA hdl C fun σD LD gD hLD hfrD => ?_
      walk_at "ABH"
      have hfrB := (gC.trans gD).get hfr (by simp)
      have hfl : (fresh rs dsC).length = dsC.length := by simp [fresh]
      have hfl50 : (fresh rs dsC).length ≤ 50 := Nat.le_trans (Nat.le_of_eq hfl) hdl
      walk_at "ABH"
      refine wo_of (eqSame hfrD hfrB (pures_rows _) (len50 hfl50)).2 ?_
      walk_at "ABH"
      refine wo_of (truB _) ?_
      walk_at "ABH"
      refine ifFF rfl ?_
      walk_at "ABH"
      have gABCD := (gAB.trans gC).trans gD
      have Sf := fresh_sd C S
      have Vf := fresh_val C
      obtain ⟨hd0, hdlast⟩ := rc_last hrc hv
      walk_at "ABH"
      refine wm_obj (f := 18) (gABCD.get hL9 (by simp)) (by rfl) (by rfl) (sides_ok (by omega) (gABCD.get hL9 (by simp)) (hJ9.gr gABCD) hfrB hfl50 Vf Sf fun σE LE gE hLE hsE => ?_)
      walk_at "ABH"
      refine wo_of (a := .int (-Int.ofNat 1)) rfl ?_
      walk_at "ABH"
      refine wo_of (lastL (v := pv (sat ss last)) hsE (len50 (by rw [List.length_map]; exact hdl)) ?_) ?_
      walk_at "ABH"
      · rw [List.getLast?_eq_getElem?, List.length_map, List.length_map, List.getElem?_map, List.getElem?_map, hdlast]; rfl
      walk_at "ABH"
      refine wo_of (subL (v := pv (sat ss last)) ((gABCD.trans gE).get hss9 (by simp)) (le_big (len50 hsl50)) (by rw [List.getElem?_map, sat_get (by omega)]; rfl)) ?_
      walk_at "ABH"
      have hwl := hw _ (List.mem_of_getElem? (sat_get (show last < ss.length by omega)))
      walk_at "ABH"
      refine wo_of (neSameT (pv_pure (by omega))) ?_
      walk_at "ABH"
      refine wo_of (truB _) ?_
      walk_at "ABH"
      refine ifTF rfl ?_
      walk_at "ABH"
      have hfrE := gE.get hfrB (by simp)
      walk_at "ABH"
      refine w2_of (lenL hfrE (len50 hfl50)) ?_
      walk_at "ABH"
      refine wo_of (subI _ _) ?_
      walk_at "ABH"
      have ef : (((fresh rs dsC).map Rw.v).length : Int) - Int.ofNat 1 = ((dsC.length - 1 : Nat) : Int) := by rw [List.length_map, hfl]; exact ofN1 hd0
      rw [ef]
      walk_at "ABH"
      refine used_ok (by omega) hfrE hfl50 Vf (by rw [hfl]; exact Nat.sub_lt hd0 Nat.zero_lt_one) fun σF LF dsF gF hLF hdsF hrcF => ?_
      walk_at "ABH"
      obtain rfl := hrcF.uniq (fresh_all hrc hv hlast)
      have hfrF := gF.get hfrE (by simp)
      walk_at "ABH"
      refine w2_of (lenL hfrF (len50 hfl50)) ?_
      walk_at "ABH"
      rw [List.length_map, hfl]
      walk_at "ABH"
      refine w2_of (rangeN (Nat.le_trans hdl (by decide))) ?_
      walk_at "ABH"
      refine w2_of (listR (Nat.le_trans hdl (by decide))) ?_
      walk_at "ABH"
      (try dsimp only)
      have gG : Gr [] σF (σF ++ [Cell.list (intsV (List.range dsC.length))]) := Gr.app
      walk_at "ABH"
      refine wo_of (eqSame (gG.get hdsF (by simp)) getEnd (pures_ints _ _) (len50 (by rw [List.length_range]; exact hdl))).2 ?_
      walk_at "ABH"
      refine wo_of (truB _) ?_
      walk_at "ABH"
      refine ifTF rfl ?_
      walk_at "ABH"
      exact ⟨(((g9.trans gABCD).trans gE).trans gF).trans gG, by trivial, by trivial, by trivial, by trivial⟩
    · obtain ⟨g9, q16, q7, q25, q26⟩ := h
      have hrs9 := g9.get hrs8 (by simp)
      have hL9 : LinesAt σ9 kl kj := g9.get hL8 (by simp)
      walk_at "ABH"
      refine wm_obj (f := 20) hL9 (by rfl) (by rfl) (trimmed_ok (by omega) hL9 (hJ8.gr g9) hrs9 hrl50 hr0 hv S fun σA LA ds gA hLA hrc hfr => ?_)
      walk_at "ABH"
      have hrsA := gA.get hrs9 (by simp)
      walk_at "ABH"
      refine w2_of (lenL hrsA (len50 hrl50)) ?_
      walk_at "ABH"
      refine wo_of (subI _ _) ?_
      walk_at "ABH"
      rw [en]
      walk_at "ABH"
      refine marked_ok (by omega) hrsA hrl50 hv hrm fun σB LB ds2 gB hLB hds2 hrc2 => ?_
      walk_at "ABH"
      obtain rfl := hrc2.uniq hrc
      have C := hrc.clo hv hrm
      have hbd := bounded (N := rs.length) C.nodup (fun x hx => Nat.lt_of_le_of_lt (((hrc.iff x).mp hx).le hv) hrm)
      have hdl : ds2.length ≤ 50 := Nat.le_trans hbd hrl50
      walk_at "ABH"
      refine anew_ok (by omega) (gB.get hrsA (by simp)) hrl50 hds2 hdl C fun σC LC gC hLC hfrC => ?_
      walk_at "ABH"
      refine wo_of (eqSame ((gB.trans gC).get hfr (by simp)) hfrC (pures_rows _) (by simp [fresh]; omega)).1 ?_
      walk_at "ABH"
      refine wo_of (truB _) ?_
      walk_at "ABH"
      refine ifTT rfl ?_
      walk_at "ABH"
      have gall := (gA.trans gB).trans gC
      walk_at "ABH"
      refine wo_of (eqSame (gall.get hrs9 (by simp)) (gall.get (g9.get hwas8 (by simp)) (by simp)) (pures_rows _) (len50 hrl50)).1 ?_
      walk_at "ABH"
      rfl
  · intro k r' h m hm
    have : k = 0 := by have := (List.getElem?_eq_some_iff.mp h).1; simp at this; omega
    subst this
    simp at h
    subst h
    rw [ho] at hm
    simp at hm
  · refine ⟨by simp, fun k r' h => ?_, fun q hq => ?_⟩
    walk_at "ABH"
    · have : k = 0 := by have := (List.getElem?_eq_some_iff.mp h).1; simp at this; omega
      subst this
      simp at h
      subst h
      rw [ho]
      exact hsd
    · simp at hq; subst hq; omega
  · intro q hq
    simp at hq
    subst hq
    omega

end Ab
end
section
set_option maxRecDepth 100000
namespace Ab
open PySem PySem.W PySem.Calls PyProof.Rows

/-- where the text's own things lie -/
structure Ads where
  told : Addr
  cls : Nat → Addr
  fn : Nat → Addr
  scr : Addr
  vals : List Value
  nums : List Int

mutual
inductive Rep (ad : Ads) (φ : List Addr) (h : Heap) : Value → V → Prop
  | none : Rep ad φ h .none .none
  | bool (b : Bool) : Rep ad φ h (.bool b) (.bool b)
  | int (i : Int) (t : Tok) : Rep ad φ h (.int i t) (.int i)
  | str (x : Str) (t : Tok) : Rep ad φ h (.str x t) (.str x.cps.toList)
  | tup {a : Addr} {items : Array Value} {n : Nat} {vs : List V} : IsT h a items n → Reps ad φ h items.toList vs → Rep ad φ h (.ref a) (.tup vs)
  | rng {r : Addr} {a b c : Int} {t u v : Tok} : IsRange h r a b c t u v → Rep ad φ h (.ref r) (.rng a b c)
  | ref {a : Addr} {n : Nat} : φ[n]? = some a → Rep ad φ h (.ref a) (.ref n)
  | obj {x d : Addr} {n c : Nat} : h.get? x = some (instObj (ad.cls c) d) → φ[n]? = some d → Rep ad φ h (.ref x) (.obj n c)
  | told : Rep ad φ h (.ref ad.told) .told
  | frz : Rep ad φ h (.ref ad.scr) (.frz ad.nums)
inductive Reps (ad : Ads) (φ : List Addr) (h : Heap) : List Value → List V → Prop
  | nil : Reps ad φ h [] []
  | cons {v : Value} {vs : List Value} {a : V} {as : List V} : Rep ad φ h v a → Reps ad φ h vs as → Reps ad φ h (v :: vs) (a :: as)
end

/-! what stands for a value -/
noncomputable def RepI (ad : Ads) (φ : List Addr) (h : Heap) (v : Value) : V → Prop
  | .none => v = .none
  | .bool b => v = .bool b
  | .int i => ∃ t, v = .int i t
  | .str l => ∃ x t, v = .str x t ∧ x.cps.toList = l
  | .tup vs => ∃ a items n, v = .ref a ∧ IsT h a items n ∧ Reps ad φ h items.toList vs
  | .rng a b c => ∃ r t u x, v = .ref r ∧ IsRange h r a b c t u x
  | .ref n => ∃ a, v = .ref a ∧ φ[n]? = some a
  | .obj n c => ∃ x d, v = .ref x ∧ h.get? x = some (instObj (ad.cls c) d) ∧ φ[n]? = some d
  | .told => v = .ref ad.told
  | .frz l => v = .ref ad.scr ∧ l = ad.nums
theorem Rep.inv {ad : Ads} {φ : List Addr} {h : Heap} {v : Value} {a : V} (r : Rep ad φ h v a) : RepI ad φ h v a := by
  cases r with
  | none => exact rfl
  | bool b => exact rfl
  | int i t => exact ⟨t, rfl⟩
  | str x t => exact ⟨x, t, rfl, rfl⟩
  | tup a b => exact ⟨_, _, _, rfl, a, b⟩
  | rng a => exact ⟨_, _, _, _, rfl, a⟩
  | ref a => exact ⟨_, rfl, a⟩
  | obj a b => exact ⟨_, _, rfl, a, b⟩
  | told => exact rfl
  | frz => exact ⟨rfl, rfl⟩
noncomputable def RepsI (ad : Ads) (φ : List Addr) (h : Heap) (args : List Value) : List V → Prop
  | [] => args = []
  | a :: as => ∃ v vs, args = v :: vs ∧ Rep ad φ h v a ∧ Reps ad φ h vs as
theorem Reps.inv {ad : Ads} {φ : List Addr} {h : Heap} {args : List Value} {as : List V} (r : Reps ad φ h args as) : RepsI ad φ h args as := by
  cases r with
  | nil => exact rfl
  | cons a b => exact ⟨_, _, rfl, a, b⟩
theorem Reps.i1 {ad : Ads} {φ : List Addr} {h : Heap} {args : List Value} {a : V} (r : Reps ad φ h args [a]) : ∃ v, args = [v] ∧ Rep ad φ h v a := by
  obtain ⟨v, vs, rfl, x, y⟩ := r.inv
  obtain rfl := y.inv
  exact ⟨v, rfl, x⟩
theorem Reps.i2 {ad : Ads} {φ : List Addr} {h : Heap} {args : List Value} {a b : V} (r : Reps ad φ h args [a, b]) : ∃ v w, args = [v, w] ∧ Rep ad φ h v a ∧ Rep ad φ h w b := by
  obtain ⟨v, vs, rfl, x, y⟩ := r.inv
  obtain ⟨w, rfl, z⟩ := y.i1
  exact ⟨v, w, rfl, x, z⟩
theorem Reps.i3 {ad : Ads} {φ : List Addr} {h : Heap} {args : List Value} {a b c : V} (r : Reps ad φ h args [a, b, c]) : ∃ v w x, args = [v, w, x] ∧ Rep ad φ h v a ∧ Rep ad φ h w b ∧ Rep ad φ h x c := by
  obtain ⟨v, vs, rfl, x, y⟩ := r.inv
  obtain ⟨w, u, rfl, z, z2⟩ := y.i2
  exact ⟨v, w, u, rfl, x, z, z2⟩

noncomputable def EntRep (ad : Ads) (φ : List Addr) (h : Heap) : List DictEntry → List (Nat × V) → Prop
  | [], [] => True
  | e :: es, f :: fs => (∃ x t, e.key = .str x t ∧ x ∈ names ∧ nm x = f.1) ∧ Rep ad φ h e.val f.2 ∧ EntRep ad φ h es fs
  | _, _ => False

/-- objects that never change: tuples, ranges, instances (not their dicts) -/
noncomputable def Rigid (o : Obj) : Prop := (o.cls = .type "tuple" ∨ o.cls = .type "range" ∨ ∃ c, o.cls = .ref c) ∧ (match o.data with | .dict .. => False | .cell _ => False | _ => True)

section
variable (prog : Program) (w : World) (ad : Ads)
noncomputable def RepC (φ : List Addr) (h : Heap) (a : Addr) : Cell → Prop
  | .list vs => ∃ items n, IsL h a items n ∧ Reps ad φ h items.toList vs
  | .dictI kvs => ∃ ps : List (Int × Value), h.DictOf (intKind prog w) a ps ∧ ps.map (·.1) = kvs.map (·.1) ∧ Reps ad φ h (ps.map (·.2)) (kvs.map (·.2))
  | .dictS kvs => ∃ ps : List (Str × Value), h.DictOf (strKind prog w) a ps ∧ ps.map (fun p => p.1.cps.toList) = kvs.map (·.1) ∧ Reps ad φ h (ps.map (·.2)) (kvs.map (·.2))
  | .inst fs => ∃ es n, h.get? a = some (dictOf es n) ∧ EntRep ad φ h es fs

structure Inv (base : Heap) (σ : Store) (φ : List Addr) (h : Heap) : Prop where
  stay : ∀ b o, base.get? b = some o → h.get? b = some o
  len : φ.length = σ.length
  nodup : φ.Nodup
  fresh : ∀ a ∈ φ, base.get? a = none
  cell : ∀ (i : Nat) (c : Cell) (a : Addr), σ[i]? = some c → φ[i]? = some a → RepC prog w ad φ h a c

/-- what goes from s to s': all stands but the store's cells and the places of X -/
structure ToX (base : Heap) (X : List Addr) (φ : List Addr) (s : Shared) (σ' : Store) (φ' : List Addr) (s' : Shared) : Prop where
  gens : s'.gens = s.gens
  os : s'.os = s.os
  keep : ∀ a o, a ∉ φ → a ∉ X → s.heap.get? a = some o → s'.heap.get? a = some o
  rigid : ∀ a o, Rigid o → s.heap.get? a = some o → s'.heap.get? a = some o
  pre : φ <+: φ'
  new : ∀ a ∈ φ', a ∈ φ ∨ (s.heap.get? a = none ∧ a ∉ X)
  inv : Inv prog w ad base σ' φ' s'.heap
noncomputable abbrev To (base : Heap) (φ : List Addr) (s : Shared) (σ' : Store) (φ' : List Addr) (s' : Shared) : Prop := ToX prog w ad base [] φ s σ' φ' s'
end

section
variable {prog : Program} {w : World} {ad : Ads} {base : Heap} {σ σ' σ'' : Store} {φ φ' φ'' : List Addr} {h h' : Heap} {s s' s'' : Shared}

theorem Reps.length {vs : List Value} {as : List V} (r : Reps ad φ h vs as) : vs.length = as.length := by
  induction vs generalizing as with
  | nil => cases r; rfl
  | cons v vs ih =>
    cases r with
    | cons h r => exact congrArg (· + 1) (ih r)
theorem Reps.get {vs : List Value} {as : List V} (r : Reps ad φ h vs as) {k : Nat} {a : V} (e : as[k]? = some a) : ∃ v, vs[k]? = some v ∧ Rep ad φ h v a := by
  induction vs generalizing as k with
  | nil => cases r; simp at e
  | cons v vs ih =>
    cases r with
    | cons h r =>
      cases k with
      | zero => simp at e; subst e; exact ⟨v, rfl, h⟩
      | succ k => simp at e; exact ih r e
theorem Reps.append {vs ws : List Value} {as bs : List V} (r : Reps ad φ h vs as) (q : Reps ad φ h ws bs) : Reps ad φ h (vs ++ ws) (as ++ bs) := by
  induction vs generalizing as with
  | nil => cases r; exact q
  | cons v vs ih =>
    cases r with
    | cons h r => exact .cons h (ih r)
theorem Reps.drop {vs : List Value} {as : List V} (r : Reps ad φ h vs as) (k : Nat) : Reps ad φ h (vs.drop k) (as.drop k) := by
  induction vs generalizing as k with
  | nil => cases r; simpa using Reps.nil
  | cons v vs ih =>
    cases r with
    | cons h r =>
      cases k with
      | zero => exact .cons h r
      | succ k => exact ih r k
theorem Reps.take {vs : List Value} {as : List V} (r : Reps ad φ h vs as) (k : Nat) : Reps ad φ h (vs.take k) (as.take k) := by
  induction vs generalizing as k with
  | nil => cases r; simpa using Reps.nil
  | cons v vs ih =>
    cases r with
    | cons h r =>
      cases k with
      | zero => exact .nil
      | succ k => exact .cons h (ih r k)
theorem Reps.set {vs : List Value} {as : List V} (r : Reps ad φ h vs as) (k : Nat) {v : Value} {a : V} (q : Rep ad φ h v a) : Reps ad φ h (vs.set k v) (as.set k a) := by
  induction vs generalizing as k with
  | nil => cases r; simpa using Reps.nil
  | cons v vs ih =>
    cases r with
    | cons h r =>
      cases k with
      | zero => exact .cons q r
      | succ k => exact .cons h (ih r k)
theorem Reps.one {v : Value} {a : V} (q : Rep ad φ h v a) : Reps ad φ h [v] [a] := .cons q .nil

theorem Inv.obj (I : Inv prog w ad base σ φ h) {a : Addr} (ha : a ∈ φ) : ∃ o, h.get? a = some o ∧ (o.cls = .type "list" ∨ o.cls = .type "dict") := by
  obtain ⟨i, hi, rfl⟩ := List.getElem_of_mem ha
  have hs : i < σ.length := I.len ▸ hi
  have := I.cell i σ[i] φ[i] (List.getElem?_eq_getElem hs) (List.getElem?_eq_getElem hi)
  cases hc : σ[i] with
  | list vs => rw [hc] at this; obtain ⟨_, _, e, _⟩ := this; exact ⟨_, e, .inl rfl⟩
  | dictI kvs => rw [hc] at this; obtain ⟨_, ⟨o, _, _, e, x, _⟩, _⟩ := this; exact ⟨o, e, .inr x.1⟩
  | dictS kvs => rw [hc] at this; obtain ⟨_, ⟨o, _, _, e, x, _⟩, _⟩ := this; exact ⟨o, e, .inr x.1⟩
  | inst fs => rw [hc] at this; obtain ⟨_, _, e, _⟩ := this; exact ⟨_, e, .inr rfl⟩

theorem pre_get {n : Nat} {a : Addr} (hp : φ <+: φ') (e : φ[n]? = some a) : φ'[n]? = some a := by
  obtain ⟨t, rfl⟩ := hp
  obtain ⟨hn, _⟩ := List.getElem?_eq_some_iff.mp e
  rw [List.getElem?_append_left hn]; exact e

mutual
theorem Rep.mono' (hk : ∀ a o, Rigid o → h.get? a = some o → h'.get? a = some o) (hp : φ <+: φ') : ∀ (a : V) {v : Value}, Rep ad φ h v a → Rep ad φ' h' v a
  | .none, _, r => by obtain rfl := r.inv; exact .none
  | .bool b, _, r => by obtain rfl := r.inv; exact .bool b
  | .int i, _, r => by obtain ⟨t, rfl⟩ := r.inv; exact .int i t
  | .str l, _, r => by obtain ⟨x, t, rfl, rfl⟩ := r.inv; exact .str x t
  | .tup vs, _, r => by obtain ⟨_, _, _, rfl, ht, q⟩ := r.inv; exact .tup (hk _ _ ⟨.inl rfl, trivial⟩ ht) (Reps.mono' hk hp vs q)
  | .rng _ _ _, _, r => by obtain ⟨_, _, _, _, rfl, ht⟩ := r.inv; exact .rng (hk _ _ ⟨.inr (.inl rfl), trivial⟩ ht)
  | .ref _, _, r => by obtain ⟨_, rfl, e⟩ := r.inv; exact .ref (pre_get hp e)
  | .obj _ _, _, r => by obtain ⟨_, _, rfl, ht, e⟩ := r.inv; exact .obj (hk _ _ ⟨.inr (.inr ⟨_, rfl⟩), trivial⟩ ht) (pre_get hp e)
  | .told, _, r => by obtain rfl := r.inv; exact .told
  | .frz _, _, r => by obtain ⟨rfl, rfl⟩ := r.inv; exact .frz
theorem Reps.mono' (hk : ∀ a o, Rigid o → h.get? a = some o → h'.get? a = some o) (hp : φ <+: φ') : ∀ (as : List V) {vs : List Value}, Reps ad φ h vs as → Reps ad φ' h' vs as
  | [], _, r => by obtain rfl := r.inv; exact .nil
  | a :: as, _, r => by obtain ⟨_, _, rfl, q, r⟩ := r.inv; exact .cons (Rep.mono' hk hp a q) (Reps.mono' hk hp as r)
end
theorem Rep.mono (hk : ∀ a o, Rigid o → h.get? a = some o → h'.get? a = some o) (hp : φ <+: φ') {v : Value} {a : V} (r : Rep ad φ h v a) : Rep ad φ' h' v a := Rep.mono' hk hp a r
theorem Reps.mono (hk : ∀ a o, Rigid o → h.get? a = some o → h'.get? a = some o) (hp : φ <+: φ') {vs : List Value} {as : List V} (r : Reps ad φ h vs as) : Reps ad φ' h' vs as := Reps.mono' hk hp as r
theorem EntRep.mono (hk : ∀ a o, Rigid o → h.get? a = some o → h'.get? a = some o) (hp : φ <+: φ') : ∀ {es : List DictEntry} {fs : List (Nat × V)}, EntRep ad φ h es fs → EntRep ad φ' h' es fs
  | [], [], _ => trivial
  | _ :: _, _ :: _, x => ⟨x.1, x.2.1.mono hk hp, EntRep.mono hk hp x.2.2⟩
  | [], _ :: _, x => x.elim
  | _ :: _, [], x => x.elim

theorem RepC.mono (hk : ∀ a o, Rigid o → h.get? a = some o → h'.get? a = some o) (hp : φ <+: φ') {a : Addr}
    (ha : ∀ o, h.get? a = some o → h'.get? a = some o) {c : Cell} (x : RepC prog w ad φ h a c) : RepC prog w ad φ' h' a c := by
  cases c with
  | list _ => obtain ⟨items, n, e, r⟩ := x; exact ⟨items, n, ha _ e, r.mono hk hp⟩
  | dictI _ => obtain ⟨ps, ⟨o, es, ep, e, x⟩, k, r⟩ := x; exact ⟨ps, ⟨o, es, ep, ha _ e, x⟩, k, r.mono hk hp⟩
  | dictS _ => obtain ⟨ps, ⟨o, es, ep, e, x⟩, k, r⟩ := x; exact ⟨ps, ⟨o, es, ep, ha _ e, x⟩, k, r.mono hk hp⟩
  | inst _ => obtain ⟨es, n, e, r⟩ := x; exact ⟨es, n, ha _ e, r.mono hk hp⟩

theorem Inv.rigid (I : Inv prog w ad base σ φ h) {a : Addr} {o : Obj} (ho : Rigid o) (e : h.get? a = some o) : a ∉ φ := fun hm => by
  obtain ⟨o', e', hc⟩ := I.obj hm
  rw [e] at e'; cases e'
  rcases ho.1 with q | q | ⟨c, q⟩ <;> rw [q] at hc <;> simp at hc

/-- what is not the store's changes -/
theorem Inv.apart (I : Inv prog w ad base σ φ h) (hb : ∀ b o, base.get? b = some o → h'.get? b = some o) (hφ : ∀ a ∈ φ, ∀ o, h.get? a = some o → h'.get? a = some o)
    (hk : ∀ a o, Rigid o → h.get? a = some o → h'.get? a = some o) : Inv prog w ad base σ φ h' :=
  ⟨hb, I.len, I.nodup, I.fresh, fun i c a e1 e2 => (I.cell i c a e1 e2).mono hk (List.prefix_refl _) fun o => hφ a (List.mem_of_getElem? e2) o⟩
theorem Inv.keeps (I : Inv prog w ad base σ φ h) (hk : ∀ a o, h.get? a = some o → h'.get? a = some o) : Inv prog w ad base σ φ h' :=
  I.apart (fun b o e => hk _ _ (I.stay b o e)) (fun a _ o => hk a o) fun a o _ => hk a o

variable {X : List Addr}
theorem ToX.refl (I : Inv prog w ad base σ φ s.heap) : ToX prog w ad base X φ s σ φ s := ⟨rfl, rfl, fun _ _ _ _ e => e, fun _ _ _ e => e, List.prefix_refl _, fun _ ha => .inl ha, I⟩
theorem ToX.trans (x : ToX prog w ad base X φ s σ' φ' s') (y : ToX prog w ad base X φ' s' σ'' φ'' s'') : ToX prog w ad base X φ s σ'' φ'' s'' where
  gens := y.gens.trans x.gens
  os := y.os.trans x.os
  keep := fun a o ha hx e => y.keep a o (fun hm => (x.new a hm).elim ha fun q => by rw [q.1] at e; cases e) hx (x.keep a o ha hx e)
  rigid := fun a o ho e => y.rigid a o ho (x.rigid a o ho e)
  pre := x.pre.trans y.pre
  new := fun a ha => by
    rcases y.new a ha with q | ⟨q, hx⟩
    · exact x.new a q
    · by_cases hm : a ∈ φ
      · exact .inl hm
      · refine .inr ⟨?_, hx⟩
        cases e : s.heap.get? a with
        | none => rfl
        | some o => rw [x.keep a o hm hx e] at q; cases q
  inv := y.inv
theorem To.refl (I : Inv prog w ad base σ φ s.heap) : To prog w ad base φ s σ φ s := ToX.refl I
theorem To.trans (x : To prog w ad base φ s σ' φ' s') (y : To prog w ad base φ' s' σ'' φ'' s'') : To prog w ad base φ s σ'' φ'' s'' := ToX.trans x y
theorem ToX.rep (x : ToX prog w ad base X φ s σ' φ' s') {v : Value} {a : V} (r : Rep ad φ s.heap v a) : Rep ad φ' s'.heap v a := r.mono x.rigid x.pre
theorem ToX.reps (x : ToX prog w ad base X φ s σ' φ' s') {v : List Value} {a : List V} (r : Reps ad φ s.heap v a) : Reps ad φ' s'.heap v a := r.mono x.rigid x.pre
/-- a place that is not the store's stays out of it -/
theorem ToX.out (x : ToX prog w ad base X φ s σ' φ' s') {a : Addr} {o : Obj} (e : s.heap.get? a = some o) (h : a ∉ φ) : a ∉ φ' := fun hm => (x.new a hm).elim h fun q => by rw [q.1] at e; cases e
theorem To.weaken (x : To prog w ad base φ s σ' φ' s') (hX : ∀ a ∈ X, ∃ o, s.heap.get? a = some o) : ToX prog w ad base X φ s σ' φ' s' :=
  ⟨x.gens, x.os, fun a o ha _ => x.keep a o ha (by simp), x.rigid, x.pre, fun a ha => (x.new a ha).imp_right fun q => ⟨q.1, fun hm => by obtain ⟨o, e⟩ := hX a hm; rw [q.1] at e; cases e⟩, x.inv⟩
theorem To.kep (x : To prog w ad base φ s σ' φ' s') {a : Addr} {o : Obj} (h : a ∉ φ) (e : s.heap.get? a = some o) : s'.heap.get? a = some o := x.keep a o h (by simp) e

theorem To.kept (I : Inv prog w ad base σ φ s.heap) {tk : Nat} (hk : ∀ a o, s.heap.get? a = some o → h'.get? a = some o) : To prog w ad base φ s σ φ { s with heap := h', toks := tk } :=
  ⟨rfl, rfl, fun a o _ _ => hk a o, fun a o _ => hk a o, List.prefix_refl _, fun _ ha => .inl ha, I.keeps hk⟩
theorem To.toks (I : Inv prog w ad base σ φ s.heap) {tk : Nat} : To prog w ad base φ s σ φ { s with toks := tk } := ⟨rfl, rfl, fun _ _ _ _ e => e, fun _ _ _ e => e, List.prefix_refl _, fun _ ha => .inl ha, I⟩

/-- a new cell at an address that was free -/
theorem To.add (I : Inv prog w ad base σ φ s.heap) {tk : Nat} {d : Addr} {c : Cell} (hd : s.heap.get? d = none) (hk : ∀ a o, s.heap.get? a = some o → h'.get? a = some o)
    (hc : RepC prog w ad (φ ++ [d]) h' d c) : To prog w ad base φ s (σ ++ [c]) (φ ++ [d]) { s with heap := h', toks := tk } := by
  have hdm : d ∉ φ := fun hm => by
    obtain ⟨o, e, _⟩ := I.obj hm
    rw [hd] at e; cases e
  refine ⟨rfl, rfl, fun a o _ _ => hk a o, fun a o _ => hk a o, List.prefix_append _ _, fun a ha => ?_, ?_⟩
  · rcases List.mem_append.mp ha with q | q
    · exact .inl q
    · rw [List.mem_singleton.mp q]; exact .inr ⟨hd, by simp⟩
  · refine ⟨fun b o e => hk _ _ (I.stay b o e), by simp [I.len], ?_, fun a ha => ?_, fun i c' a e1 e2 => ?_⟩
    · rw [List.nodup_append]
      exact ⟨I.nodup, by simp, fun a ha b hb => by rw [List.mem_singleton.mp hb]; intro q; exact hdm (q ▸ ha)⟩
    · rcases List.mem_append.mp ha with q | q
      · exact I.fresh a q
      · rw [List.mem_singleton.mp q]
        cases e : base.get? d with
        | none => rfl
        | some o => rw [I.stay d o e] at hd; cases hd
    · by_cases hi : i < σ.length
      · rw [List.getElem?_append_left hi] at e1
        rw [List.getElem?_append_left (I.len ▸ hi)] at e2
        exact (I.cell i c' a e1 e2).mono (fun a o _ => hk a o) (List.prefix_append _ _) fun o => hk a o
      · have hi2 : i = σ.length := by
          have := (List.getElem?_eq_some_iff.mp e1).1
          simp at this; omega
        subst hi2
        rw [List.getElem?_append_right (Nat.le_refl _)] at e1
        rw [List.getElem?_append_right (by rw [I.len]; exact Nat.le_refl _), I.len] at e2
        simp at e1 e2
        subst e1 e2
        exact hc

/-- a cell changed -/
theorem To.put (I : Inv prog w ad base σ φ s.heap) {tk : Nat} {d : Addr} {n : Nat} {c : Cell} (hd : φ[n]? = some d) (hk : ∀ a o, a ≠ d → s.heap.get? a = some o → h'.get? a = some o)
    (hc : RepC prog w ad φ h' d c) : To prog w ad base φ s (σ.set n c) φ { s with heap := h', toks := tk } := by
  have hdm : d ∈ φ := List.mem_of_getElem? hd
  have hk2 : ∀ a o, a ∉ φ → s.heap.get? a = some o → h'.get? a = some o := fun a o ha e => hk a o (fun q => ha (q ▸ hdm)) e
  have hr : ∀ a o, Rigid o → s.heap.get? a = some o → h'.get? a = some o := fun a o ho e => hk2 a o (I.rigid ho e) e
  refine ⟨rfl, rfl, fun a o ha _ => hk2 a o ha, hr, List.prefix_refl _, fun _ ha => .inl ha, fun b o e => hk b o (fun q => ?_) (I.stay b o e), by simp [I.len], I.nodup, I.fresh, fun i c' a e1 e2 => ?_⟩
  · have := I.fresh d hdm; rw [← q, e] at this; cases this
  · by_cases hi : i = n
    · subst hi
      rw [hd] at e2; cases e2
      have : i < σ.length := by rw [← I.len]; exact (List.getElem?_eq_some_iff.mp hd).1
      rw [List.getElem?_set_self this] at e1
      cases e1; exact hc
    · rw [List.getElem?_set_ne (fun q => hi q.symm)] at e1
      have hne : a ≠ d := fun q => by
        subst q
        obtain ⟨h1, g1⟩ := List.getElem?_eq_some_iff.mp e2
        obtain ⟨h2, g2⟩ := List.getElem?_eq_some_iff.mp hd
        exact hi ((List.getElem_inj I.nodup).mp (g1.trans g2.symm))
      exact (I.cell i c' a e1 e2).mono hr (List.prefix_refl _) fun o => hk a o hne
end
end Ab

end
section
set_option maxRecDepth 100000
namespace Ab
open PySem PySem.W PySem.Calls PyProof.Rows PySem.Spec

mutual
noncomputable def V.pd : V → PyData
  | .int i => .int i
  | .str l => .str ⟨l.toArray⟩
  | .tup vs => .tuple (V.pds vs)
  | _ => .none
noncomputable def V.pds : List V → List PyData
  | [] => []
  | v :: r => V.pd v :: V.pds r
end
noncomputable def V.deep : V → Bool
  | .int _ | .str _ | .tup _ => true
  | _ => false

section
variable {ad : Ads} {φ : List Addr} {h : Heap}
mutual
theorem pure_reads : ∀ (v : V) (k : Nat) {val : Value}, V.pure k v = true → Rep ad φ h val v → ∃ as, Reads h val v.pd as
  | .int i, _, _, _, r => by obtain ⟨t, rfl⟩ := r.inv; exact ⟨_, .int i t⟩
  | .str _, _, _, _, r => by obtain ⟨x, t, rfl, rfl⟩ := r.inv; exact ⟨_, .str x t⟩
  | .tup _, 0, _, hp, _ => nomatch hp
  | .tup vs, k + 1, _, hp, r => by
    obtain ⟨_, _, _, rfl, ht, r⟩ := r.inv
    obtain ⟨as, q⟩ := pures_reads vs k (Bool.and_eq_true_iff.mp hp).2 r
    exact ⟨as, .tuple ht rfl rfl q⟩
  | .none, _, _, hp, _ => nomatch hp
  | .bool _, _, _, hp, _ => nomatch hp
  | .rng _ _ _, _, _, hp, _ => nomatch hp
  | .ref _, _, _, hp, _ => nomatch hp
  | .obj _ _, _, _, hp, _ => nomatch hp
  | .told, _, _, hp, _ => nomatch hp
  | .frz _, _, _, hp, _ => nomatch hp
theorem pures_reads : ∀ (vs : List V) (k : Nat) {vals : List Value}, V.pures k vs = true → Reps ad φ h vals vs → ∃ as, ReadsAll h vals (V.pds vs) as
  | [], _, _, _, r => by obtain rfl := r.inv; exact ⟨_, .nil⟩
  | v :: r, k, _, hp, q => by
    obtain ⟨_, _, rfl, q, qs⟩ := q.inv
    have hp := Bool.and_eq_true_iff.mp hp
    obtain ⟨as, x⟩ := pure_reads v k hp.1 q
    obtain ⟨bs, y⟩ := pures_reads r k hp.2 qs
    exact ⟨_, .cons x y⟩
end
end

theorem strOk_of {l : List Nat} (h : (l.all fun c => decide (c < 55296)) = true) : PyData.strOk ⟨l.toArray⟩ = true := by
  unfold PyData.strOk
  simp only [List.all_toArray, List.all_eq_true, decide_eq_true_eq] at h ⊢
  intro c hc
  have := h c hc
  omega
mutual
theorem pure_lay : ∀ (v : V) (k : Nat), V.pure k v = true → v.pd.canLay0 = true ∧ v.pd.depth ≤ k
  | .int i, _, _ => ⟨rfl, Nat.zero_le _⟩
  | .str l, k, hp => ⟨strOk_of (Bool.and_eq_true_iff.mp hp).2, Nat.zero_le _⟩
  | .tup vs, 0, hp => nomatch hp
  | .tup vs, k + 1, hp => by
    obtain ⟨a, b⟩ := pures_lay vs k (Bool.and_eq_true_iff.mp hp).2
    simp only [V.pd, PyData.canLay0, PyData.depth]
    exact ⟨a, by omega⟩
  | .none, _, hp => nomatch hp
  | .bool _, _, hp => nomatch hp
  | .rng _ _ _, _, hp => nomatch hp
  | .ref _, _, hp => nomatch hp
  | .obj _ _, _, hp => nomatch hp
  | .told, _, hp => nomatch hp
  | .frz _, _, hp => nomatch hp
theorem pures_lay : ∀ (vs : List V) (k : Nat), V.pures k vs = true → PyData.canLayAll0 (V.pds vs) = true ∧ PyData.depthAll (V.pds vs) ≤ k
  | [], k, _ => ⟨rfl, Nat.zero_le _⟩
  | v :: r, k, hp => by
    have hp := Bool.and_eq_true_iff.mp hp
    obtain ⟨a, b⟩ := pure_lay v k hp.1
    obtain ⟨c, d⟩ := pures_lay r k hp.2
    simp only [V.pds, PyData.canLayAll0, PyData.depthAll, a, c, Bool.and_self, true_and]
    omega
end
theorem pure_shaped {v : V} {k : Nat} (hk : k ≤ 64) (h : V.pure k v = true) : SeqAt.shaped v.pd = true := by
  obtain ⟨a, b⟩ := pure_lay v k h
  unfold SeqAt.shaped
  rw [a, Bool.true_and]; exact decide_eq_true (by omega)

theorem str_beq (a b : List Nat) : ((⟨a.toArray⟩ : Str) == ⟨b.toArray⟩) = (a == b) := by
  by_cases e : a = b
  · subst e; simp
  · have h1 : (a == b) = false := by simpa using e
    rw [h1]
    have : (⟨a.toArray⟩ : Str) ≠ ⟨b.toArray⟩ := fun q => e (by
      have := congrArg (fun s : Str => s.cps.toList) q
      simpa using this)
    simpa using this

theorem pure_three {v : V} {k : Nat} (h : V.pure k v = true) : (∃ i, v = .int i) ∨ (∃ l, v = .str l) ∨ ∃ vs j, v = .tup vs ∧ k = j + 1 ∧ V.pures j vs = true := by
  cases v with
  | int i => exact .inl ⟨i, rfl⟩
  | str l => exact .inr (.inl ⟨l, rfl⟩)
  | tup vs => cases k with
    | zero => cases h
    | succ j => exact .inr (.inr ⟨vs, j, rfl, rfl, (Bool.and_eq_true_iff.mp h).2⟩)
  | _ => cases h
mutual
theorem eqv_pd : ∀ (a b : V) (j k : Nat), V.pure j a = true → V.pure k b = true → PyData.eqv a.pd b.pd = V.beq a b
  | .int i, b, _, _, _, hk => by
    rcases pure_three hk with ⟨_, rfl⟩ | ⟨_, rfl⟩ | ⟨_, _, rfl, _, _⟩ <;> simp only [V.pd, PyData.eqv, V.beq]
  | .str l, b, _, _, _, hk => by
    rcases pure_three hk with ⟨_, rfl⟩ | ⟨_, rfl⟩ | ⟨_, _, rfl, _, _⟩
    · simp only [V.pd, PyData.eqv, V.beq]
    · simp only [V.pd, PyData.eqv, V.beq]; exact str_beq _ _
    · simp only [V.pd, PyData.eqv, V.beq]
  | .tup vs, b, 0, _, hj, hk => nomatch hj
  | .tup vs, b, j + 1, k, hj, hk => by
    rcases pure_three hk with ⟨_, rfl⟩ | ⟨_, rfl⟩ | ⟨ws, k, rfl, rfl, hk2⟩
    · simp only [V.pd, PyData.eqv, V.beq]
    · simp only [V.pd, PyData.eqv, V.beq]
    · simp only [V.pd, PyData.eqv, V.beq]
      exact eqvs_pds vs ws j k (Bool.and_eq_true_iff.mp hj).2 hk2
  | .none, _, _, _, hp, _ => nomatch hp
  | .bool _, _, _, _, hp, _ => nomatch hp
  | .rng _ _ _, _, _, _, hp, _ => nomatch hp
  | .ref _, _, _, _, hp, _ => nomatch hp
  | .obj _ _, _, _, _, hp, _ => nomatch hp
  | .told, _, _, _, hp, _ => nomatch hp
  | .frz _, _, _, _, hp, _ => nomatch hp
theorem eqvs_pds : ∀ (a b : List V) (j k : Nat), V.pures j a = true → V.pures k b = true → PyData.eqvAll (V.pds a) (V.pds b) = V.beqs a b
  | [], [], _, _, _, _ => by simp [V.pds, PyData.eqvAll, V.beqs]
  | [], _ :: _, _, _, _, _ => by simp [V.pds, PyData.eqvAll, V.beqs]
  | _ :: _, [], _, _, _, _ => by simp [V.pds, PyData.eqvAll, V.beqs]
  | a :: r, b :: t, j, k, hj, hk => by
    simp only [V.pures, Bool.and_eq_true] at hj hk
    simp only [V.pds, PyData.eqvAll, V.beqs, eqv_pd a b j k hj.1 hk.1, eqvs_pds r t j k hj.2 hk.2]
end

section
variable {prog : Program} {w : World} {ad : Ads} {base : Heap} {σ σ' : Store} {φ φ' : List Addr} {s : Shared} {A : Around} {E : Value → Shared → Prop} {Q : Value → Shared → Prop}

theorem list_shaped {vs : List V} (h : V.pures 40 vs = true) : SeqAt.shaped (.list (V.pds vs)) = true := by
  have l1 := pures_lay vs 40 h
  unfold SeqAt.shaped
  simp only [PyData.canLay0, PyData.depth, l1.1, Bool.true_and]
  exact decide_eq_true (by omega)
theorem eqV_out {σ : Store} {a b : V} {t : Bool} (he : eqV σ a b = some t) : (if V.pure 40 a && V.pure 40 b then some (V.beq a b) else none) = some t ∨
    ∃ i j vs ws, a = .ref i ∧ b = .ref j ∧ σ[i]? = some (.list vs) ∧ σ[j]? = some (.list ws) ∧ (V.pures 40 vs && V.pures 40 ws && decide (vs.length ≤ big) && decide (ws.length ≤ big)) = true ∧ t = V.beqs vs ws := by
  cases a with
  | ref i => cases b with
    | ref j =>
      have he : (match (generalizing := false) σ[i]?, σ[j]? with
        | some (.list vs), some (.list ws) => if V.pures 40 vs && V.pures 40 ws && decide (vs.length ≤ big) && decide (ws.length ≤ big) then some (V.beqs vs ws) else none
        | _, _ => none) = some t := he
      cases e1 : σ[i]? with
      | none => rw [e1] at he; exact (nn he).elim
      | some c =>
        rw [e1] at he
        cases c with
        | list vs => cases e2 : σ[j]? with
          | none => rw [e2] at he; exact (nn he).elim
          | some d =>
            rw [e2] at he
            cases d with
            | list ws =>
              obtain ⟨hp, he⟩ := ite_some he
              exact .inr ⟨i, j, vs, ws, rfl, rfl, e1, e2, hp, (Option.some.inj he).symm⟩
            | _ => exact (nn he).elim
        | _ => exact (nn he).elim
    | _ => exact .inl he
  | _ => exact .inl he
/-- == over a store's lists, or over data -/
theorem eqV_sound {a b : Value} {va vb : V} {t : Bool} (I : Inv prog w ad base σ φ s.heap) (hu : A.units + 64 < cLine) (ra : Rep ad φ s.heap a va) (rb : Rep ad φ s.heap b vb) (he : eqV σ va vb = some t) :
    (Q (.bool t) s → wpAny (model prog w) A (compareOp .Eq a b) Q E s) ∧ (Q (.bool (!t)) s → wpAny (model prog w) A (compareOp .NotEq a b) Q E s) := by
  have flat : (if V.pure 40 va && V.pure 40 vb then some (V.beq va vb) else none) = some t →
      (Q (.bool t) s → wpAny (model prog w) A (compareOp .Eq a b) Q E s) ∧ (Q (.bool (!t)) s → wpAny (model prog w) A (compareOp .NotEq a b) Q E s) := by
    intro he
    split at he
    · rename_i hp
      simp only [Bool.and_eq_true] at hp
      cases he
      obtain ⟨as, r1⟩ := pure_reads va 40 hp.1 ra
      obtain ⟨bs, r2⟩ := pure_reads vb 40 hp.2 rb
      have e := eqv_pd va vb 40 40 hp.1 hp.2
      exact ⟨fun q => eq_dataH r1 r2 (pure_shaped (by omega) hp.1) (pure_shaped (by omega) hp.2) hu (by rw [e]; exact q),
        fun q => ne_dataH r1 r2 (pure_shaped (by omega) hp.1) (pure_shaped (by omega) hp.2) hu (by rw [e]; exact q)⟩
    · cases he
  rcases eqV_out he with he | ⟨i, j, vs, ws, rfl, rfl, e1, e2, hp, rfl⟩
  · exact flat he
  · obtain ⟨_, rfl, ea⟩ := ra.inv
    obtain ⟨_, rfl, eb⟩ := rb.inv
    simp only [Bool.and_eq_true, decide_eq_true_eq] at hp
    obtain ⟨i1, n1, h1, q1⟩ := I.cell _ _ _ e1 ea
    obtain ⟨i2, n2, h2, q2⟩ := I.cell _ _ _ e2 eb
    obtain ⟨as, r1⟩ := pures_reads vs 40 hp.1.1.1 q1
    obtain ⟨bs, r2⟩ := pures_reads ws 40 hp.1.1.2 q2
    have s1 := list_shaped hp.1.1.1
    have s2 := list_shaped hp.1.1.2
    have e : PyData.eqv (.list (V.pds vs)) (.list (V.pds ws)) = V.beqs vs ws := by rw [PyData.eqv]; exact eqvs_pds vs ws 40 40 hp.1.1.1 hp.1.1.2
    exact ⟨fun q => eq_dataH (.list h1 rfl rfl r1) (.list h2 rfl rfl r2) s1 s2 hu (by rw [e]; exact q),
      fun q => ne_dataH (.list h1 rfl rfl r1) (.list h2 rfl rfl r2) s1 s2 hu (by rw [e]; exact q)⟩
end
end Ab

end
section
set_option maxRecDepth 100000
namespace Ab
open PySem PySem.W PySem.Calls PyProof.Rows PySem.Spec

/-! dicts: the ledger's pairs against the store's -/
section
variable {ad : Ads} {φ : List Addr} {h : Heap} {K : Type} [DecidableEq K]
/-- pairs of a dict object against a store's dict, keys by f -/
noncomputable def PRep {C : Type} (ad : Ads) (φ : List Addr) (h : Heap) (f : K → C) (ps : List (K × Value)) (kvs : List (C × V)) : Prop :=
  ps.map (fun p => f p.1) = kvs.map (·.1) ∧ Reps ad φ h (ps.map (·.2)) (kvs.map (·.2))
theorem PRep.cons {C : Type} {f : K → C} {p : K × Value} {ps : List (K × Value)} {kv : C × V} {kvs : List (C × V)} (r : PRep ad φ h f (p :: ps) (kv :: kvs)) : f p.1 = kv.1 ∧ Rep ad φ h p.2 kv.2 ∧ PRep ad φ h f ps kvs := by
  obtain ⟨a, b⟩ := r
  simp only [List.map_cons, List.cons.injEq] at a b
  cases b with
  | cons b1 b2 => exact ⟨a.1, b1, a.2, b2⟩
theorem PRep.mk {C : Type} {f : K → C} {p : K × Value} {ps : List (K × Value)} {kv : C × V} {kvs : List (C × V)} (e : f p.1 = kv.1) (r : Rep ad φ h p.2 kv.2) (q : PRep ad φ h f ps kvs) : PRep ad φ h f (p :: ps) (kv :: kvs) :=
  ⟨by simp only [List.map_cons, e, q.1], by simp only [List.map_cons]; exact .cons r q.2⟩
theorem PRep.nil_left {C : Type} {f : K → C} {kvs : List (C × V)} (r : PRep ad φ h f [] kvs) : kvs = [] := by
  have := r.1
  simp at this; exact this
theorem PRep.nil_right {C : Type} {f : K → C} {ps : List (K × Value)} (r : PRep ad φ h f ps []) : ps = [] := by
  have := r.1
  simp at this; exact this
theorem PRep.length {C : Type} {f : K → C} {ps : List (K × Value)} {kvs : List (C × V)} (r : PRep ad φ h f ps kvs) : ps.length = kvs.length := by
  have := congrArg List.length r.1
  simpa using this

theorem valueAt_cons {p : K × Value} {ps : List (K × Value)} {k : K} : valueAt (p :: ps) k = if p.1 = k then some p.2 else valueAt ps k := by
  unfold valueAt
  rw [List.find?_cons]
  by_cases e : p.1 = k <;> simp [e]

noncomputable def look {C : Type} [DecidableEq C] (k : C) : List (C × V) → Option V
  | [] => none
  | (a, v) :: r => if a = k then some v else look k r
noncomputable def putC {C : Type} [DecidableEq C] (k : C) (v : V) : List (C × V) → List (C × V)
  | [] => [(k, v)]
  | (a, w) :: r => if a = k then (a, v) :: r else (a, w) :: putC k v r
theorem look_I (k : Int) : ∀ kvs, lookI k kvs = look k kvs
  | [] => rfl
  | (a, v) :: r => by simp only [lookI, look, look_I k r]
theorem look_S (k : List Nat) : ∀ kvs, lookS k kvs = look k kvs
  | [] => rfl
  | (a, v) :: r => by simp only [lookS, look, look_S k r]
theorem look_A (k : Nat) : ∀ kvs, lookA k kvs = look k kvs
  | [] => rfl
  | (a, v) :: r => by simp only [lookA, look, look_A k r]
theorem put_I (k : Int) (v : V) : ∀ kvs, putI k v kvs = putC k v kvs
  | [] => rfl
  | (a, w) :: r => by simp only [putI, putC, put_I k v r]
theorem put_S (k : List Nat) (v : V) : ∀ kvs, putS k v kvs = putC k v kvs
  | [] => rfl
  | (a, w) :: r => by simp only [putS, putC, put_S k v r]
theorem put_A (k : Nat) (v : V) : ∀ kvs, putA k v kvs = putC k v kvs
  | [] => rfl
  | (a, w) :: r => by simp only [putA, putC, put_A k v r]

theorem PRep.look_some {C : Type} [DecidableEq C] {f : K → C} (hf : ∀ a b, f a = f b → a = b) {ps : List (K × Value)} {kvs : List (C × V)} (r : PRep ad φ h f ps kvs) {k : K} {v : V} (e : look (f k) kvs = some v) :
    ∃ val, valueAt ps k = some val ∧ Rep ad φ h val v := by
  induction ps generalizing kvs with
  | nil => rw [r.nil_left] at e; cases e
  | cons p ps ih =>
    cases kvs with
    | nil => cases e
    | cons kv kvs =>
      obtain ⟨e1, r1, r2⟩ := r.cons
      rw [valueAt_cons]
      simp only [look] at e
      by_cases hk : kv.1 = f k
      · rw [if_pos hk] at e; cases e
        rw [if_pos (hf _ _ (e1.trans hk))]
        exact ⟨_, rfl, r1⟩
      · rw [if_neg hk] at e
        rw [if_neg fun q => hk (by rw [← e1, q])]
        exact ih r2 e
theorem PRep.look_none {C : Type} [DecidableEq C] {f : K → C} {ps : List (K × Value)} {kvs : List (C × V)} (r : PRep ad φ h f ps kvs) {k : K} (e : look (f k) kvs = none) :
    valueAt ps k = none := by
  induction ps generalizing kvs with
  | nil => rfl
  | cons p ps ih =>
    cases kvs with
    | nil => cases r.nil_right
    | cons kv kvs =>
      obtain ⟨e1, r1, r2⟩ := r.cons
      rw [valueAt_cons]
      simp only [look] at e
      by_cases hk : kv.1 = f k
      · rw [if_pos hk] at e; cases e
      · rw [if_neg hk] at e
        rw [if_neg fun q => hk (by rw [← e1, q])]
        exact ih r2 e
theorem PRep.isSome {C : Type} [DecidableEq C] {f : K → C} (hf : ∀ a b, f a = f b → a = b) {ps : List (K × Value)} {kvs : List (C × V)} (r : PRep ad φ h f ps kvs) (k : K) : (valueAt ps k).isSome = (look (f k) kvs).isSome := by
  cases e : look (f k) kvs with
  | none => rw [r.look_none e]; rfl
  | some v => obtain ⟨val, q, _⟩ := r.look_some hf e; rw [q]; rfl

theorem stored_cons_pos {p : K × Value} {ps : List (K × Value)} {k : K} {v : Value} (hn : ((p :: ps).map (·.1)).Nodup) (e : p.1 = k) : stored (p :: ps) k v = (p.1, v) :: ps := by
  unfold stored
  rw [if_pos (by simp [e])]
  simp only [List.map_cons, e, if_true]
  rw [map_store_of_not_mem]
  simp only [List.map_cons, List.nodup_cons] at hn
  rw [← e]; exact hn.1
theorem stored_cons_neg {p : K × Value} {ps : List (K × Value)} {k : K} {v : Value} (e : p.1 ≠ k) : stored (p :: ps) k v = p :: stored ps k v := by
  unfold stored
  simp only [List.any_cons, e, decide_false, Bool.false_or, List.map_cons, if_false]
  split <;> simp
theorem PRep.put {C : Type} [DecidableEq C] {f : K → C} (hf : ∀ a b, f a = f b → a = b) {ps : List (K × Value)} {kvs : List (C × V)} (hn : (ps.map (·.1)).Nodup) (r : PRep ad φ h f ps kvs) {k : K} {val : Value} {v : V} (q : Rep ad φ h val v) :
    PRep ad φ h f (stored ps k val) (putC (f k) v kvs) := by
  induction ps generalizing kvs with
  | nil => rw [r.nil_left]; exact .mk (p := (k, val)) (kv := (f k, v)) rfl q ⟨rfl, .nil⟩
  | cons p ps ih =>
    cases kvs with
    | nil => cases r.nil_right
    | cons kv kvs =>
      obtain ⟨e1, r1, r2⟩ := r.cons
      simp only [putC]
      by_cases hk : kv.1 = f k
      · rw [if_pos hk, stored_cons_pos hn (hf _ _ (e1.trans hk))]
        exact .mk e1 q r2
      · rw [if_neg hk, stored_cons_neg fun q => hk (by rw [← e1, q])]
        simp only [List.map_cons, List.nodup_cons] at hn
        exact .mk e1 r1 (ih hn.2 r2)
end

theorem str_inj (a b : Str) (e : a.cps.toList = b.cps.toList) : a = b := by
  obtain ⟨⟨x⟩⟩ := a
  obtain ⟨⟨y⟩⟩ := b
  simp at e; rw [e]

/-- the told table stands at the base -/
structure ToldAt (prog : Program) (w : World) (ad : Ads) (base : Heap) : Prop where
  at_ : RepC prog w ad [] base ad.told (.dictS toldTab)
  ne : (ad.told == sysModules) = false
  sys : ∃ o, base.get? sysModules = some o
  scr : IsL base ad.scr ad.vals.toArray 0
  nums : Reps ad [] base ad.vals (ad.nums.map .int)

section
variable {prog : Program} {w : World} {ad : Ads} {base : Heap} {σ σ' : Store} {φ φ' : List Addr} {s : Shared} {A : Around} {E : Value → Shared → Prop} {Q : Value → Shared → Prop}
theorem ToldAt.now (T : ToldAt prog w ad base) (I : Inv prog w ad base σ φ s.heap) : RepC prog w ad φ s.heap ad.told (.dictS toldTab) :=
  T.at_.mono (fun a o _ e => I.stay a o e) (List.nil_prefix) fun o e => I.stay _ o e
theorem ToldAt.cellNe (T : ToldAt prog w ad base) (I : Inv prog w ad base σ φ s.heap) {a : Addr} (ha : a ∈ φ) : (a == sysModules) = false := by
  obtain ⟨o, e⟩ := T.sys
  rw [beq_eq_false_iff_ne]
  intro q
  have := I.fresh a ha
  rw [q, e] at this; cases this

theorem inV_ref {σ : Store} {n : Nat} {vx : V} {t : Bool} (he : inV σ vx (.ref n) = some t) : ∃ kvs, σ[n]? = some (.dictI kvs) ∧ ∃ k, vx = .int k ∧ t = (lookI k kvs).isSome := by
  have he : (match (generalizing := false) σ[n]?, vx with
    | some (.dictI kvs), .int k => some (lookI k kvs).isSome
    | _, _ => none) = some t := he
  cases e : σ[n]? with
  | none => rw [e] at he; cases he
  | some c =>
    rw [e] at he
    cases c with
    | dictI kvs => cases vx with
      | int k => cases he; exact ⟨kvs, rfl, k, rfl, rfl⟩
      | _ => exact (nn he).elim
    | _ => exact (nn he).elim
theorem inV_sound (T : ToldAt prog w ad base) {x c : Value} {vx vc : V} {t : Bool} (I : Inv prog w ad base σ φ s.heap) (hu : A.units + 64 < cLine) (rx : Rep ad φ s.heap x vx) (rc : Rep ad φ s.heap c vc) (he : inV σ vx vc = some t)
    (q : ∀ tk, (Q (.bool t) { s with toks := tk })) : wpAny (model prog w) A (compareOp .In x c) Q E s := by
  cases rc with
  | tup ht r =>
    rename_i a items n vs
    replace he := ite_some he
    obtain ⟨hp, he⟩ := he
    simp only [Bool.and_eq_true, decide_eq_true_eq] at hp
    cases he
    obtain ⟨as, r1⟩ := pure_reads vx 0 hp.1.1 rx
    obtain ⟨bs, r2⟩ := pures_reads vs 0 hp.1.2 r
    have l1 := pure_lay vx 0 hp.1.1
    have l2 := pures_lay vs 0 hp.1.2
    refine SeqAt.in_tuple_reads (.tuple ht rfl rfl r2) r1 l2.1 l1.1 (by omega) ?_
    have e : (V.pds vs).any (fun y => PyData.eqv y vx.pd) = vs.any fun y => V.beq y vx := by
      have : ∀ l : List V, V.pures 0 l = true → (V.pds l).any (fun y => PyData.eqv y vx.pd) = l.any fun y => V.beq y vx := by
        intro l
        induction l with
        | nil => intro _; rfl
        | cons v l ih =>
          intro hl
          simp only [V.pures, Bool.and_eq_true] at hl
          simp only [V.pds, List.any_cons, ih hl.2, eqv_pd v vx 0 0 hl.1 hp.1.1]
      exact this vs hp.1.2
    rw [e]; exact q s.toks
  | told =>
    cases rx with
    | str x tx =>
      cases he
      obtain ⟨ps, hd, hr⟩ := T.now I
      refine wpAny_in_of (strKind_is prog w x tx) T.ne hd.mapOf ?_
      rw [PRep.isSome (f := fun s : Str => s.cps.toList) str_inj hr x, ← look_S]; exact q _
    | _ => exact (nn he).elim
  | ref ec =>
    replace he := inV_ref he
    obtain ⟨kvs, e1, k, rfl, rfl⟩ := he
    obtain ⟨tk, rfl⟩ := rx.inv
    obtain ⟨ps, hd, hr⟩ := I.cell _ _ _ e1 ec
    refine wpAny_in_of (intKind_is prog w k tk) (T.cellNe I (List.mem_of_getElem? ec)) hd.mapOf ?_
    rw [PRep.isSome (f := fun i : Int => i) (fun _ _ e => e) hr k, ← look_I]; exact q _
  | _ => exact (nn he).elim
theorem notInV_sound (T : ToldAt prog w ad base) {x c : Value} {vx vc : V} {t : Bool} (I : Inv prog w ad base σ φ s.heap) (hu : A.units + 64 < cLine) (rx : Rep ad φ s.heap x vx) (rc : Rep ad φ s.heap c vc) (he : inV σ vx vc = some t)
    (q : ∀ tk, (Q (.bool (!t)) { s with toks := tk })) : wpAny (model prog w) A (compareOp .NotIn x c) Q E s := by
  cases rc with
  | tup ht r =>
    rename_i a items n vs
    replace he := ite_some he
    obtain ⟨hp, he⟩ := he
    simp only [Bool.and_eq_true, decide_eq_true_eq] at hp
    cases he
    obtain ⟨as, r1⟩ := pure_reads vx 0 hp.1.1 rx
    obtain ⟨bs, r2⟩ := pures_reads vs 0 hp.1.2 r
    have l1 := pure_lay vx 0 hp.1.1
    have l2 := pures_lay vs 0 hp.1.2
    refine SeqAt.notIn_tuple_reads (.tuple ht rfl rfl r2) r1 l2.1 l1.1 (by omega) ?_
    have e : (V.pds vs).any (fun y => PyData.eqv y vx.pd) = vs.any fun y => V.beq y vx := by
      have : ∀ l : List V, V.pures 0 l = true → (V.pds l).any (fun y => PyData.eqv y vx.pd) = l.any fun y => V.beq y vx := by
        intro l
        induction l with
        | nil => intro _; rfl
        | cons v l ih =>
          intro hl
          simp only [V.pures, Bool.and_eq_true] at hl
          simp only [V.pds, List.any_cons, ih hl.2, eqv_pd v vx 0 0 hl.1 hp.1.1]
      exact this vs hp.1.2
    rw [e]; exact q s.toks
  | told =>
    cases rx with
    | str x tx =>
      cases he
      obtain ⟨ps, hd, hr⟩ := T.now I
      refine wpAny_notIn_of (strKind_is prog w x tx) T.ne hd.mapOf ?_
      rw [PRep.isSome (f := fun s : Str => s.cps.toList) str_inj hr x, ← look_S]; exact q _
    | _ => exact (nn he).elim
  | ref ec =>
    replace he := inV_ref he
    obtain ⟨kvs, e1, k, rfl, rfl⟩ := he
    obtain ⟨tk, rfl⟩ := rx.inv
    obtain ⟨ps, hd, hr⟩ := I.cell _ _ _ e1 ec
    refine wpAny_notIn_of (intKind_is prog w k tk) (T.cellNe I (List.mem_of_getElem? ec)) hd.mapOf ?_
    rw [PRep.isSome (f := fun i : Int => i) (fun _ _ e => e) hr k, ← look_I]; exact q _
  | _ => exact (nn he).elim
end
end Ab

end
section
set_option maxRecDepth 100000
namespace Ab
open PySem PySem.W PySem.Calls PyProof.Rows PySem.Spec

section
variable {prog : Program} {w : World} {ad : Ads} {base : Heap} {σ σ' : Store} {φ φ' : List Addr} {s : Shared} {A : Around} {E : Value → Shared → Prop} {Q : Value → Shared → Prop}

/-- what is to be shown behind a step that hands back v, the store then σ' -/
noncomputable abbrev Ret (prog : Program) (w : World) (ad : Ads) (base : Heap) (φ : List Addr) (s : Shared) (σ' : Store) (v : V) (Q : Value → Shared → Prop) : Prop :=
  ∀ val s' φ', To prog w ad base φ s σ' φ' s' → Rep ad φ' s'.heap val v → Q val s'

theorem le_line {n : Nat} (h : n ≤ big) : n ≤ sizeLine := by
  have : big = 4096 := rfl
  have : sizeLine = 2 ^ 24 := rfl
  omega
theorem Reps.size {h : Heap} {items : Array Value} {vs : List V} (r : Reps ad φ h items.toList vs) : items.size = vs.length := by
  have := r.length
  simpa using this
theorem getElem_toList {items : Array Value} {k : Nat} {v : Value} (e : items.toList[k]? = some v) : items[k]? = some v := by simpa using e

theorem Ret.same (I : Inv prog w ad base σ φ s.heap) {v : V} {val : Value} {tk : Nat} (q : Ret prog w ad base φ s σ v Q) (r : Rep ad φ s.heap val v) : Q val { s with toks := tk } := q _ _ _ (To.toks I) r
theorem Ret.plain (I : Inv prog w ad base σ φ s.heap) {v : V} {val : Value} (q : Ret prog w ad base φ s σ v Q) (r : Rep ad φ s.heap val v) : Q val s := q _ _ _ (To.refl I) r
/-- a new tuple -/
theorem Ret.newTup (I : Inv prog w ad base σ φ s.heap) {vs : List V} {items : List Value} {tk : Nat} (q : Ret prog w ad base φ s σ (.tup vs) Q) (r : Reps ad φ s.heap items vs) :
    Q (.ref s.heap.objs.size) { s with heap := s.heap.push { cls := .type "tuple", data := .seq items.toArray }, toks := tk } :=
  q _ _ _ (To.kept I fun a o e => Heap.get?_push_of_some _ e) (.tup (IsT.new _ _) (by simpa using Reps.mono (fun a o _ e => Heap.get?_push_of_some _ e) (List.prefix_refl _) r))
theorem get_size_none (h : Heap) : h.get? h.objs.size = none := by
  cases e : h.get? h.objs.size with
  | none => rfl
  | some o => exact absurd (Heap.lt_size e) (Nat.lt_irrefl _)
/-- a new list -/
theorem Ret.newList (I : Inv prog w ad base σ φ s.heap) {vs : List V} {items : List Value} {tk : Nat} (q : Ret prog w ad base φ s (σ ++ [.list vs]) (.ref σ.length) Q) (r : Reps ad φ s.heap items vs) :
    Q (.ref s.heap.objs.size) { s with heap := s.heap.push { cls := .type "list", data := .seq items.toArray }, toks := tk } :=
  q _ _ (φ ++ [s.heap.objs.size]) (To.add I (get_size_none _) (fun a o e => Heap.get?_push_of_some _ e)
    ⟨_, _, IsL.new _ _, by simpa using Reps.mono (fun a o _ e => Heap.get?_push_of_some _ e) (List.prefix_append _ _) r⟩) (.ref (by rw [← I.len]; simp))

theorem truthy_sound {v : Value} {a : V} {t : Bool} {P : Bool → Shared → Prop} (r : Rep ad φ s.heap v a) (he : truthy a = some t) (q : P t s) : wpAny (model prog w) A (PySem.truthy v) P E s := by
  cases r with
  | bool b => cases he; exact wpAny_truthy_bool q
  | _ => exact (nn he).elim

theorem cmpOp_sound (T : ToldAt prog w ad base) {op : CmpOp} {a b : Value} {va vb v : V} (I : Inv prog w ad base σ φ s.heap) (hu : A.units + 64 < cLine) (ra : Rep ad φ s.heap a va) (rb : Rep ad φ s.heap b vb) (he : cmpOp σ op va vb = some v)
    (q : Ret prog w ad base φ s σ v Q) : wpAny (model prog w) A (compareOp op a b) Q E s := by
  cases op with
  | Eq =>
    obtain ⟨t, h1, rfl⟩ := Option.map_eq_some_iff.mp he
    exact (eqV_sound I hu ra rb h1).1 (q.plain I (.bool t))
  | NotEq =>
    obtain ⟨t, h1, rfl⟩ := Option.map_eq_some_iff.mp he
    exact (eqV_sound I hu ra rb h1).2 (q.plain I (.bool _))
  | In =>
    obtain ⟨t, h1, rfl⟩ := Option.map_eq_some_iff.mp he
    exact inV_sound T I hu ra rb h1 fun tk => q.same I (.bool _)
  | NotIn =>
    obtain ⟨t, h1, rfl⟩ := Option.map_eq_some_iff.mp he
    exact notInV_sound T I hu ra rb h1 fun tk => q.same I (.bool _)
  | Lt =>
    obtain ⟨x, y, rfl, rfl, rfl⟩ := int2_some (f := fun x y => decide (x < y)) he
    obtain ⟨_, rfl⟩ := ra.inv
    obtain ⟨_, rfl⟩ := rb.inv
    exact lt_int (q.plain I (.bool _))
  | LtE =>
    obtain ⟨x, y, rfl, rfl, rfl⟩ := int2_some (f := fun x y => decide (x ≤ y)) he
    obtain ⟨_, rfl⟩ := ra.inv
    obtain ⟨_, rfl⟩ := rb.inv
    exact le_int (q.plain I (.bool _))
  | Gt =>
    obtain ⟨x, y, rfl, rfl, rfl⟩ := int2_some (f := fun x y => decide (y < x)) he
    obtain ⟨_, rfl⟩ := ra.inv
    obtain ⟨_, rfl⟩ := rb.inv
    exact gt_int (q.plain I (.bool _))
  | _ => exact (nn he).elim

theorem small_bounds {x : Int} (h : small x = true) : -(2 ^ 40) < x ∧ x < 2 ^ 40 := by
  simp only [small, decide_eq_true_eq] at h
  omega

theorem binOp_sound {op : Operator} {a b : Value} {va vb v : V} (I : Inv prog w ad base σ φ s.heap) (ra : Rep ad φ s.heap a va) (rb : Rep ad φ s.heap b vb) (he : binOp op va vb = some v)
    (q : Ret prog w ad base φ s σ v Q) : wpAny (model prog w) A (binaryOp op a b) Q E s := by
  cases ra with
  | int i t =>
    cases rb with
    | int j u =>
      cases op with
      | Add => cases he; exact wpAny_add_int (q.same I (.int _ _))
      | Sub => cases he; exact sub_int (q.same I (.int _ _))
      | Mult =>
        replace he := ite_some he
        obtain ⟨hs, he⟩ := he
        simp only [Bool.and_eq_true] at hs
        cases he
        have h1 := small_bounds hs.1
        exact mul_int (q.same I (.int _ _)) (IntMulOk.of_left (intBits_le_64 (by omega) (by omega)))
      | FloorDiv =>
        replace he := ite_some he
        obtain ⟨hs, he⟩ := he
        simp only [Bool.and_eq_true, decide_eq_true_eq] at hs
        cases he
        have h1 := small_bounds hs.1.2
        exact floordiv_int (by omega) (q.same I (.int _ _)) (.inl (PyProof.noPylong_small (by omega)))
      | Mod =>
        replace he := ite_some he
        obtain ⟨_, he⟩ := he
        cases he
        exact mod_int' (by omega) (q.same I (.int _ _))
      | _ => exact (nn he).elim
    | _ => exact (nn he).elim
  | tup ht r1 =>
    cases rb with
    | tup hb r2 =>
      cases op with
      | Add =>
        replace he := ite_none he
        obtain ⟨hc, he⟩ := he
        simp only [Bool.or_eq_true, not_or, Bool.not_eq_true, decide_eq_false_iff_not, Nat.not_lt, List.isEmpty_eq_false_iff] at hc
        cases he
        have l1 := r1.size
        have l2 := r2.size
        refine P.add_tuple ht hb (fun e => hc.1.1 ?_) (fun e => hc.1.2 ?_) ?_ (le_line (by omega))
        · exact List.eq_nil_of_length_eq_zero (by rw [← l1]; simpa using e)
        · exact List.eq_nil_of_length_eq_zero (by rw [← l2]; simpa using e)
        · have e : ∀ x y : Array Value, (x.toList ++ y.toList).toArray = x ++ y := fun x y => by apply Array.ext'; simp
          have := q.newTup (tk := s.toks) I (r1.append r2)
          rw [e] at this; exact this
      | _ => exact (nn he).elim
    | _ => exact (nn he).elim
  | _ => exact (nn he).elim

/-- an item read: the type's own slot serves it -/
noncomputable def Sub (prog : Program) (w : World) (A : Around) (E Q : Value → Shared → Prop) (o i : Value) (s : Shared) : Prop :=
  ∃ T id, s.TypeIs o T ∧ typeLookup (.type T) "__getitem__" = pure (some (.builtin id)) ∧ wpAny (model prog w) A (getItem o i) Q E s

theorem seqIndex_nonneg {k : Int} {n : Nat} (h0 : 0 ≤ k) (h1 : k.toNat < n) : seqIndex? k n = some k.toNat := by
  unfold seqIndex?
  have : ¬ k < 0 := by omega
  simp only [this, if_false]
  rw [if_pos]
  simp; omega

theorem subOp_sound (T : ToldAt prog w ad base) {o i : Value} {vo vi v : V} (I : Inv prog w ad base σ φ s.heap) (ro : Rep ad φ s.heap o vo) (ri : Rep ad φ s.heap i vi) (he : subOp σ vo vi = some v)
    (q : Ret prog w ad base φ s σ v Q) : Sub prog w A E Q o i s := by
  cases ro with
  | tup ht r =>
    rename_i a items n vs
    cases ri with
    | int k u =>
      replace he := ite_some he
      obtain ⟨hb, he⟩ := he
      replace he := ite_some he
      obtain ⟨h0, he⟩ := he
      obtain ⟨x, hx, rx⟩ := r.get he
      have hk : k.toNat < vs.length := (List.getElem?_eq_some_iff.mp he).1
      have hb2 : vs.length ≤ 4096 := hb
      refine ⟨"tuple", _, ⟨_, ht, rfl⟩, PyProof.Rows.slot_tuple_getitem.lookup, ?_⟩
      exact P.getItem_tuple ht (by omega) (by omega) (by rw [r.size]; exact seqIndex_nonneg h0 hk) (getElem_toList hx) (q.plain I rx)
    | _ => exact (nn he).elim
  | str x t =>
    cases ri with
    | int k u =>
      replace he := ite_some he
      obtain ⟨hb, he⟩ := he
      simp only [Option.map_eq_some_iff] at he
      obtain ⟨c, hc, rfl⟩ := he
      have hk : k.toNat < x.cps.toList.length := (List.getElem?_eq_some_iff.mp hc).1
      have hb2 : x.cps.toList.length ≤ 4096 := hb.2
      refine ⟨"str", _, typeIs_str s x t, PyProof.Rows.slot_str_getitem.lookup, ?_⟩
      refine PyProof.Rows.getItem_str (c := c) ?_ ?_ (q.same I (.str ⟨#[c]⟩ _))
      · simp; omega
      · have : x.length = x.cps.toList.length := by simp [Str.length]
        rw [this, seqIndex_nonneg hb.1 hk]
        simpa using hc
    | _ => exact (nn he).elim
  | told =>
    cases ri with
    | str x t =>
      have he : lookS x.cps.toList toldTab = some v := he
      obtain ⟨ps, hd, hr⟩ := T.now I
      obtain ⟨val, h1, h2⟩ := PRep.look_some (f := fun s : Str => s.cps.toList) str_inj hr (k := x) (by rw [← look_S]; exact he)
      refine ⟨"dict", _, hd.typeIs, PySem.F.slot_dict_getitem.lookup, ?_⟩
      exact wpAny_getItem_of (strKind_is prog w x t) hd.mapOf h1 (q.same I h2)
    | _ => exact (nn he).elim
  | ref e =>
    cases ri with
    | int k u =>
      replace he := cell_two (f := fun vs => if vs.length ≤ big then (if k = -1 then vs.getLast? else seqAt vs k) else none) (g := fun kvs => lookI k kvs) he
      rcases he with ⟨vs, e1, he⟩ | ⟨kvs, e1, he⟩
      · obtain ⟨items, n, hl, r⟩ := I.cell _ _ _ e1 e
        replace he := ite_some he
        obtain ⟨hb, he⟩ := he
        have hb2 : vs.length ≤ 4096 := hb
        split at he
        · rename_i hk
          subst hk
          rw [List.getLast?_eq_getElem?] at he
          obtain ⟨x, hx, rx⟩ := r.get he
          have hn : vs.length - 1 < vs.length := (List.getElem?_eq_some_iff.mp he).1
          have hs := r.size
          refine ⟨"list", _, ⟨_, hl, rfl⟩, PySem.F.slot_list_getitem.lookup, ?_⟩
          refine wpAny_getItem_list_neg hl.isList (by omega) (by omega) (by omega) ?_ (q.plain I rx)
          have : ((-1 : Int) + (items.size : Int)).toNat = vs.length - 1 := by omega
          rw [this]; exact getElem_toList hx
        · obtain ⟨h0, he⟩ := ite_some he
          obtain ⟨x, hx, rx⟩ := r.get he
          have hk : k.toNat < vs.length := (List.getElem?_eq_some_iff.mp he).1
          refine ⟨"list", _, ⟨_, hl, rfl⟩, PySem.F.slot_list_getitem.lookup, ?_⟩
          exact wpAny_getItem_list hl.isList h0 (by omega) (getElem_toList hx) (q.plain I rx)
      · obtain ⟨ps, hd, hr⟩ := I.cell _ _ _ e1 e
        obtain ⟨val, h1, h2⟩ := PRep.look_some (f := fun i : Int => i) (fun _ _ e => e) hr (k := k) (by rw [← look_I]; exact he)
        refine ⟨"dict", _, hd.typeIs, PySem.F.slot_dict_getitem.lookup, ?_⟩
        exact wpAny_getItem_of (intKind_is prog w k u) hd.mapOf h1 (q.same I h2)
    | str x t =>
      replace he := cell_dictS (f := fun kvs => lookS x.cps.toList kvs) he
      obtain ⟨kvs, e1, he⟩ := he
      obtain ⟨ps, hd, hr⟩ := I.cell _ _ _ e1 e
      obtain ⟨val, h1, h2⟩ := PRep.look_some (f := fun s : Str => s.cps.toList) str_inj hr (k := x) (by rw [← look_S]; exact he)
      refine ⟨"dict", _, hd.typeIs, PySem.F.slot_dict_getitem.lookup, ?_⟩
      exact wpAny_getItem_of (strKind_is prog w x t) hd.mapOf h1 (q.same I h2)
    | _ => exact (nn he).elim
  | _ => exact (nn he).elim
end
end Ab

end
section
set_option maxRecDepth 100000
namespace Ab
open PySem PySem.W PySem.Calls PyProof.Rows PySem.Spec

section
variable {prog : Program} {w : World} {ad : Ads} {base : Heap} {σ σ' : Store} {φ φ' : List Addr} {s : Shared} {A : Around} {E : Value → Shared → Prop} {Q : Value → Shared → Prop}

theorem places_upto (b : Nat) : Builtin.Slice.slicePlaces 0 (b : Int) 1 = b := by
  unfold Builtin.Slice.slicePlaces
  simp only [show (1 : Int) > 0 from by omega, if_true, Int.ediv_one]
  split <;> omega
theorem adjust_upto (b n : Nat) (hb : b < n) : Builtin.Slice.sliceAdjust none (some (b : Int)) 1 (n : Int) = (0, (b : Int)) := by
  unfold Builtin.Slice.sliceAdjust
  have h1 : ¬ ((1 : Int) < 0) := by omega
  have h2 : ¬ ((b : Int) < 0) := by omega
  simp only [h1, h2, if_false]
  congr 1
  omega
theorem applied_upto {sl : Addr} {b n : Nat} {u : Tok} {P : Int × Int × Nat → Shared → Prop} (hs : s.heap.IsSliceOf sl .none (.int b u) .none) (hb : b < n) (h : P (0, 1, b) s) :
    wpAny (model prog w) A (Builtin.Slice.sliceApplied (.ref sl) (pure (n : Int))) P E s := by
  obtain ⟨os, hos, hcs, hds⟩ := id hs
  unfold Builtin.Slice.sliceApplied Builtin.Slice.sliceFields
  refine wpAny_bind (wpAny_bind (wpAny_field hos hds (x := .none) rfl (wpAny_bind (wpAny_field hos hds (x := .int b u) rfl (wpAny_bind (wpAny_field hos hds (x := .none) rfl (wpAny_pure ?_)))))))
  refine wpAny_bind (slicePart_none ?_)
  show wpAny _ _ (if ((1 : Int) == 0) = true then _ else _) _ _ s
  rw [if_neg (by decide)]
  refine wpAny_bind (slicePart_none (wpAny_bind (slicePart_int (wpAny_bind (wpAny_pure ?_)))))
  show wpAny _ _ (match Builtin.Slice.sliceAdjust none (some (b : Int)) 1 (n : Int) with | (lo, hi) => pure (lo, (1 : Int), Builtin.Slice.slicePlaces lo hi 1)) _ _ s
  rw [adjust_upto b n hb]
  show wpAny _ _ (pure ((0 : Int), (1 : Int), Builtin.Slice.slicePlaces 0 (b : Int) 1)) _ _ s
  rw [places_upto b]
  exact wpAny_pure h
theorem pick_upto (xs : Array Value) (b : Nat) : ((List.range b).filterMap fun (k : Nat) => xs[((0 : Int) + (k : Int) * 1).toNat]?).toArray = (xs.toList.take b).toArray := by
  have e : (fun (k : Nat) => xs[((0 : Int) + (k : Int) * 1).toNat]?) = (fun x => xs[x]?) ∘ fun k => 0 + k := by
    funext k
    have : ((0 : Int) + (k : Int) * 1).toNat = 0 + k := by omega
    simp only [Function.comp, this]
  have := pick_run xs 0 b
  rw [List.filterMap_map] at this
  rw [e, this, List.drop_zero]
theorem getItem_tuple_upto {t sl : Addr} {items : Array Value} {b : Nat} {u : Tok} {P : Value → Shared → Prop} (ht : PyProof.Rows.IsTup s.heap t items) (hs : s.heap.IsSliceOf sl .none (.int b u) .none) (hb : b < items.size)
    (h : P (.ref s.heap.objs.size) { s with heap := s.heap.push { cls := .type "tuple", data := .seq (items.toList.take b).toArray } })
    (hsz : items.size ≤ sizeLine) : wpAny (model prog w) A (getItem (.ref t) (.ref sl)) P E s := by
  have htake : sizeOk (.seq (items.toList.take b).toArray) := by
    show (items.toList.take b).toArray.size ≤ sizeLine
    rw [List.size_toArray, List.length_take, Array.length_toList]
    omega
  obtain ⟨os, hos, hcs, hds⟩ := id hs
  have hTs : s.TypeIs (.ref sl) "slice" := ⟨os, hos, hcs⟩
  unfold getItem
  try with_reducible refine wpAny_holding ?_
  first | refine wpAny_bind (wpAny_pure ?_) | skip
  refine wpAny_bind (wpAny_sequenceKey ht.typeIs (by decide) ?_)
  refine wpAny_bind (wpAny_callSpecial?_slot (name := Str.ofString "__getitem__") ht.typeIs PyProof.Rows.slot_tuple_getitem
    (wpAny_call_entry PyProof.Rows.slot_tuple_getitem ht.typeIs PyProof.Rows.entry_tuple_getitem ?_ (PyProof.Rows.args_tuple_getitem _ _)))
  show wpAny _ _ (Builtin.Tuple.tupleItemsOf (.ref t) >>= _) _ _ s
  refine wpAny_bind (tupleItemsOf_ ht ?_)
  refine wpAny_bind (wpAny_typeOf hTs ?_)
  rw [if_pos (by decide)]
  refine wpAny_bind (applied_upto hs hb ?_)
  have hno : ¬ (((0 : Int) == 0 && (1 : Int) == 1 && b == items.size) = true) := by
    have : (b == items.size) = false := by rw [beq_eq_false_iff_ne]; omega
    rw [this]; simp
  show wpAny _ _ (if ((0 : Int) == 0 && (1 : Int) == 1 && b == items.size) = true then _ else _) _ _ s
  rw [if_neg hno, pick_upto items b]
  first
    | exact wpAny_bind (m := Builtin.Tuple.tupleExact _) (wpAny_newObj_type (wpAny_pure ⟨_, rfl, wpAny_pure h⟩) htake)
    | exact wpAny_bind (m := Builtin.Tuple.tupleExact _) (wpAny_newObj_type (wpAny_bind (wpAny_pure (wpAny_pure ⟨_, rfl, wpAny_pure h⟩))) htake)
    | exact wpAny_bind (wpAny_bind (m := Builtin.Tuple.tupleExact _) (wpAny_newObj_type (wpAny_pure (wpAny_pure ⟨_, rfl, wpAny_pure h⟩)) htake))
    | exact wpAny_bind (wpAny_bind (m := Builtin.Tuple.tupleExact _) (wpAny_newObj_type (wpAny_pure ⟨_, rfl, wpAny_pure h⟩) htake))

theorem fromOp_sound {o i : Value} {sl : Addr} {vo vi v : V} (I : Inv prog w ad base σ φ s.heap) (ro : Rep ad φ s.heap o vo) (ri : Rep ad φ s.heap i vi) (hs : s.heap.IsSliceOf sl i .none .none) (he : fromOp vo vi = some v)
    (q : Ret prog w ad base φ s σ v Q) : Sub prog w A E Q o (.ref sl) s := by
  cases ro with
  | tup ht r =>
    cases ri with
    | int k u =>
      replace he := ite_some he
      obtain ⟨hb, he⟩ := he
      cases he
      obtain ⟨j, rfl⟩ := Int.eq_ofNat_of_zero_le (show 0 ≤ k by omega)
      have hl := r.size
      refine ⟨"tuple", _, ⟨_, ht, rfl⟩, PyProof.Rows.slot_tuple_getitem.lookup, ?_⟩
      have hj : ((j : Int)).toNat = j := by omega
      rw [hj] at hb q
      refine getItem_tuple_from ⟨_, ht, rfl, _, rfl⟩ hs (by omega) (by omega) ?_ (le_line (by omega))
      exact q.newTup (tk := s.toks) I (r.drop j)
    | _ => exact (nn he).elim
  | _ => exact (nn he).elim

theorem picked_one (x : Str) (t u : Tok) (n : Nat) (hn : x.cps.toList.length = n) : (slicePicked x none (some (1, u)) none) = if 1 ≤ n then [0] else [] := by
  have hx : x.length = n := by rw [← hn]; simp [Str.length]
  unfold slicePicked Builtin.Str.strSliceIndices
  simp only [hx, Option.map_some, Option.map_none, Option.getD_none, show (1 : Int) > 0 from by omega, if_true, show ¬ ((1 : Int) < 0) from by omega, if_false]
  by_cases h : 1 ≤ n
  · have : max 0 (min (1 : Int) n) = ((1 : Nat) : Int) := by omega
    rw [if_pos h, this]
    have := sliceRange_one 0 1
    simpa using this
  · have h0 : n = 0 := by omega
    subst h0
    rw [if_neg h]
    show sliceRange 0 (max 0 (min 1 ((0 : Nat) : Int))) 1 = []
    have e : max (0 : Int) (min 1 ((0 : Nat) : Int)) = ((0 : Nat) : Int) := by omega
    rw [e]
    have := sliceRange_one 0 0
    simpa using this

theorem uptoOp_sound {o i : Value} {sl : Addr} {vo vi v : V} (T : ToldAt prog w ad base) (I : Inv prog w ad base σ φ s.heap) (ro : Rep ad φ s.heap o vo) (ri : Rep ad φ s.heap i vi) (hs : s.heap.IsSliceOf sl .none i .none) (he : uptoOp σ vo vi = some (v, σ'))
    (q : Ret prog w ad base φ s σ' v Q) : Sub prog w A E Q o (.ref sl) s := by
  cases ro with
  | tup ht r =>
    cases ri with
    | int k u =>
      replace he := ite_some he
      obtain ⟨hb, he⟩ := he
      cases he
      obtain ⟨j, rfl⟩ := Int.eq_ofNat_of_zero_le (show 0 ≤ k by omega)
      have hl := r.size
      refine ⟨"tuple", _, ⟨_, ht, rfl⟩, PyProof.Rows.slot_tuple_getitem.lookup, ?_⟩
      have hj : ((j : Int)).toNat = j := by omega
      rw [hj] at hb q
      refine getItem_tuple_upto ⟨_, ht, rfl, _, rfl⟩ hs (by omega) ?_ (le_line (by omega))
      exact q.newTup (tk := s.toks) I (r.take j)
    | _ => exact (nn he).elim
  | str x t =>
    cases ri with
    | int k u =>
      replace he := ite_some he
      obtain ⟨hb, he⟩ := he
      obtain ⟨rfl, hb⟩ := hb
      cases he
      refine ⟨"str", _, typeIs_str s x t, PyProof.Rows.slot_str_getitem.lookup, ?_⟩
      refine wpAny_getItem_str_slice (l := none) (u := some (1, u)) (st := none) hs rfl ?_
      unfold sliceMade
      have hp := picked_one x t u _ rfl
      by_cases h0 : 1 ≤ x.cps.toList.length
      · rw [if_pos h0] at hp
        rw [hp]
        by_cases h1 : x.cps.toList.length = 1
        · rw [if_pos (by have : x.length = 1 := by rw [← h1]; simp [Str.length]
                         simp [this])]
          show Q _ _
          refine q.plain I ?_
          rw [List.take_of_length_le (by omega)]
          exact .str x t
        · rw [if_neg (by have : x.length = x.cps.toList.length := by simp [Str.length]
                         simp [this]; simpa using fun e => h1 e.symm)]
          have e : ([0].filterMap (x.cps[·]?)) = x.cps.toList.take 1 := by
            obtain ⟨⟨l⟩⟩ := x
            cases l with
            | nil => simp at h0
            | cons a l => simp
          rw [e]
          refine ⟨?_, ?_⟩
          · show (x.cps.toList.take 1).toArray.size ≤ sizeLine
            rw [List.size_toArray, List.length_take]
            have : sizeLine = 2 ^ 24 := rfl
            omega
          · have := q.same (tk := s.toks + 1) I (.str ⟨(x.cps.toList.take 1).toArray⟩ s.toks)
            exact this
      · rw [if_neg h0] at hp
        rw [hp, if_pos (by have : x.length = 0 := by (have : x.length = x.cps.toList.length := by simp [Str.length]); omega
                           simp [this])]
        show Q _ _
        refine q.plain I ?_
        rw [List.take_of_length_le (by omega)]
        exact .str x t
    | _ => exact (nn he).elim
  | ref e =>
    cases ri with
    | int k u =>
      replace he := cell_list (f := fun vs => if 0 ≤ k ∧ vs.length ≤ big then some (V.ref σ.length, σ ++ [Cell.list (vs.take k.toNat)]) else none) he
      obtain ⟨vs, e1, he⟩ := he
      replace he := ite_some he
      obtain ⟨hb, he⟩ := he
      cases he
      obtain ⟨items, n, hl, r⟩ := I.cell _ _ _ e1 e
      obtain ⟨j, rfl⟩ := Int.eq_ofNat_of_zero_le hb.1
      have hj : ((j : Int)).toNat = j := by omega
      rw [hj] at q
      have hs2 := r.size
      refine ⟨"list", _, ⟨_, hl, rfl⟩, PySem.F.slot_list_getitem.lookup, ?_⟩
      refine wpAny_getItem_list_slice (lo := none) (hi := some (j : Int)) (st := none) hl.isList hs .none (.int _ _) .none (by simp) ?_ (le_line (by omega))
      rw [slicePick_upto']
      exact q.newList (tk := s.toks) I (r.take j)
    | _ => exact (nn he).elim
  | frz =>
    cases ri with
    | int k u =>
      replace he := ite_some he
      obtain ⟨hb, he⟩ := he
      cases he
      have hl := I.stay _ _ T.scr
      have r : Reps ad φ s.heap ad.vals (ad.nums.map .int) := T.nums.mono (fun a o _ e => I.stay a o e) (List.nil_prefix)
      obtain ⟨j, rfl⟩ := Int.eq_ofNat_of_zero_le hb.1
      have hj : ((j : Int)).toNat = j := by omega
      rw [hj] at q
      have hs2 := r.length
      rw [List.length_map] at hs2
      refine ⟨"list", _, ⟨_, hl, rfl⟩, PySem.F.slot_list_getitem.lookup, ?_⟩
      refine wpAny_getItem_list_slice (lo := none) (hi := some (j : Int)) (st := none) (IsL.isList hl) hs .none (.int _ _) .none (by simp) ?_ (le_line (by simp; omega))
      rw [slicePick_upto']
      exact q.newList (tk := s.toks) I (r.take j)
    | _ => exact (nn he).elim
  | _ => exact (nn he).elim
end
end Ab

end
section
set_option maxRecDepth 100000
namespace Ab
open PySem PySem.W PySem.Calls PyProof.Rows PySem.Spec

noncomputable def Ty.nm : Ty → String
  | .tuple => "tuple"
  | .str => "str"
  | .int => "int"
  | .bool => "bool"

section
variable {prog : Program} {w : World} {ad : Ads} {base : Heap} {σ σ' : Store} {φ φ' : List Addr} {s : Shared} {A : Around} {E : Value → Shared → Prop} {Q : Value → Shared → Prop}

theorem isiOp_sound {x : Value} {vx : V} {t : Ty} {b : Bool} (I : Inv prog w ad base σ φ s.heap) (rx : Rep ad φ s.heap x vx) (he : isiOp vx t = some b)
    (q : Ret prog w ad base φ s σ (.bool b) Q) : wpAny (model prog w) A (call (.builtin "isinstance") [x, .type t.nm]) Q E s := by
  cases rx with
  | tup ht r =>
    cases t <;> (cases he)
    · exact IsiPair.tuple_tuple ht rfl (q.plain I (.bool _))
    · exact IsiPair.tuple_str ht rfl (q.same I (.bool _))
    · exact IsiPair.tuple_int ht rfl (q.same I (.bool _))
    · exact IsiPair.tuple_bool ht rfl (q.same I (.bool _))
  | str y u =>
    cases t <;> (cases he)
    · exact IsiPair.str_tuple (q.same I (.bool _))
    · exact IsiPair.str_str (q.plain I (.bool _))
    · exact IsiPair.str_int (q.same I (.bool _))
    · exact IsiPair.str_bool (q.same I (.bool _))
  | int y u =>
    cases t <;> (cases he)
    · exact IsiPair.int_tuple (q.same I (.bool _))
    · exact IsiPair.int_str (q.same I (.bool _))
    · exact IsiPair.int_int (q.plain I (.bool _))
    · exact IsiPair.int_bool (q.same I (.bool _))
  | _ => exact (nn he).elim

/-! iteration -/
/-- where an iterator stands: over src, at its k-th thing -/
noncomputable def ItAt (ad : Ads) (φ : List Addr) (h : Heap) (it : Addr) (k : Nat) : V → Prop
  | .tup vs => ∃ t, h.IsTupleIter it t k ∧ t ≠ it ∧ Rep ad φ h (.ref t) (.tup vs)
  | .rng a b c => (c = 1 ∨ c = -1) ∧ small a = true ∧ small b = true ∧ IsRangeIter h it (a + (k : Nat) * c) ((rngLen a b c : Int) - (k : Nat)) c
  | .ref n => ∃ l, h.IsListIter it l k ∧ l ≠ it ∧ φ[n]? = some l
  | _ => False

theorem rng_size {a b c : Int} (hc : c = 1 ∨ c = -1) : Builtin.Range.rangeSize a b c = (rngLen a b c : Int) := by
  rcases hc with rfl | rfl
  · rw [rangeSize_nat]; simp [rngLen]
  · rw [rangeSize_downNat]; simp [rngLen]
theorem rng_small {a b c : Int} (hc : c = 1 ∨ c = -1) (ha : small a = true) (hb : small b = true) : Builtin.Range.small a b c = true := by
  have h1 := small_bounds ha
  have h2 := small_bounds hb
  rcases hc with rfl | rfl
  · exact small_one (by omega) (by omega) (by omega) (by omega)
  · exact small_down (by omega) (by omega) (by omega) (by omega)

theorem ItAt.mono {h h' : Heap} {it : Addr} {k : Nat} {src : V} (x : ItAt ad φ h it k src)
    (hk : ∀ a o, Rigid o → h.get? a = some o → h'.get? a = some o) (hi : ∀ o, h.get? it = some o → h'.get? it = some o) (hp : φ <+: φ') : ItAt ad φ' h' it k src := by
  cases src with
  | tup vs => obtain ⟨t, ⟨o, e, r⟩, hne, q⟩ := x; exact ⟨t, ⟨o, hi _ e, r⟩, hne, q.mono hk hp⟩
  | rng a b c => obtain ⟨h1, h2, h3, e⟩ := x; exact ⟨h1, h2, h3, hi _ e⟩
  | ref n => obtain ⟨l, ⟨o, e, r⟩, hne, q⟩ := x; exact ⟨l, ⟨o, hi _ e, r⟩, hne, pre_get hp q⟩
  | _ => exact x.elim

theorem mem_lt {h : Heap} {a : Addr} {o : Obj} (e : h.get? a = some o) : a ≠ h.objs.size := Nat.ne_of_lt (Heap.lt_size e)

/-- an iteration begins -/
theorem iter_start {v : Value} {src : V} {P : Value → Shared → Prop} (I : Inv prog w ad base σ φ s.heap) (r : Rep ad φ s.heap v src) (k0 : Nat) {z : Option V} (hd : itemAt σ src k0 = some z)
    (q : ∀ (it : Addr) (h' : Heap), s.heap.get? it = none → (∃ o, h'.get? it = some o) → (∀ a o, s.heap.get? a = some o → h'.get? a = some o) → it ∉ φ → ItAt ad φ h' it 0 src → P (.ref it) { s with heap := h' }) :
    wpAny (model prog w) A (pyIter v) P E s := by
  have hnew := get_size_none s.heap
  have hnm : s.heap.objs.size ∉ φ := fun hm => by
    obtain ⟨o, e, _⟩ := I.obj hm
    rw [hnew] at e; cases e
  cases r with
  | tup ht rr =>
    rename_i a items n vs
    refine wpAny_pyIter_tuple ⟨_, ht, rfl, _, rfl⟩ (q _ _ hnew ⟨_, Heap.get?_push_size _ rfl⟩ (fun a o e => Heap.get?_push_of_some _ e) hnm ?_)
    exact ⟨a, ⟨_, Heap.get?_push_size _ rfl, rfl, rfl⟩, mem_lt ht, .tup (ht.push _) (rr.mono (fun a o _ e => Heap.get?_push_of_some _ e) (List.prefix_refl _))⟩
  | rng hr =>
    rename_i r₀ a b c t₀ u₀ v₀
    obtain ⟨hc, _⟩ := ite_some hd
    simp only [Bool.and_eq_true, Bool.or_eq_true, decide_eq_true_eq] at hc
    refine wpAny_pyIter_range hr (rng_small hc.1.1 hc.1.2 hc.2) (q _ _ hnew ⟨_, Heap.get?_push_size _ rfl⟩ (fun a o e => Heap.get?_push_of_some _ e) hnm ?_)
    refine ⟨hc.1.1, hc.1.2, hc.2, ?_⟩
    rw [rng_size hc.1.1]
    have e := Heap.get?_push_size s.heap (o := { cls := .type "range_iterator", data := .fields #[rawInt a, rawInt (rngLen a b c : Int), rawInt c] }) rfl
    unfold IsRangeIter
    simp only [Int.natCast_zero, Int.zero_mul, Int.add_zero, Int.sub_zero]
    exact e
  | ref e =>
    rename_i l n
    obtain ⟨vs, e1, _⟩ := cell_list (f := fun vs => if vs.length ≤ big then some vs[k0]? else none) hd
    obtain ⟨items, m, hl, rr⟩ := I.cell _ _ _ e1 e
    refine wpAny_pyIter_list hl.isList (q _ _ hnew ⟨_, Heap.get?_push_size _ rfl⟩ (fun a o e => Heap.get?_push_of_some _ e) hnm ?_)
    exact ⟨l, ⟨_, Heap.get?_push_size _ rfl, rfl, rfl⟩, mem_lt hl, e⟩
  | _ => exact (nn hd).elim

/-- an iterator is its own iterator -/
theorem iter_self {it : Addr} {k : Nat} {src : V} {P : Value → Shared → Prop} (x : ItAt ad φ s.heap it k src) (q : P (.ref it) s) : wpAny (model prog w) A (pyIter (.ref it)) P E s := by
  cases src with
  | tup vs =>
    obtain ⟨t, hi, hne, r⟩ := x
    cases r with
    | tup ht rr => exact wpAny_pyIter_tupleiter hi q
  | rng a b c => obtain ⟨_, _, _, e⟩ := x; exact wpAny_pyIter_rangeiter e q
  | ref n => obtain ⟨l, hi, hne, e⟩ := x; exact wpAny_pyIter_listiter hi q
  | _ => exact x.elim

theorem ItAt.soft {h : Heap} {it : Addr} {k : Nat} {src : V} (x : ItAt ad φ h it k src) : ∃ o, h.get? it = some o ∧ ¬ Rigid o := by
  cases src with
  | tup vs =>
    obtain ⟨t, ⟨o, e, r, _⟩, _⟩ := x
    exact ⟨o, e, fun q => by rcases q.1 with q | q | ⟨c, q⟩ <;> rw [r] at q <;> simp at q⟩
  | rng a b c =>
    obtain ⟨_, _, _, e⟩ := x
    exact ⟨_, e, fun q => by rcases q.1 with q | q | ⟨c, q⟩ <;> simp at q⟩
  | ref n =>
    obtain ⟨t, ⟨o, e, r, _⟩, _⟩ := x
    exact ⟨o, e, fun q => by rcases q.1 with q | q | ⟨c, q⟩ <;> rw [r] at q <;> simp at q⟩
  | _ => exact x.elim

/-- one more thing of an iteration, or its end -/
theorem iter_next {it : Addr} {k : Nat} {src : V} {r : Option V} {P : Option Value → Shared → Prop} (hh : A.handled = none) (I : Inv prog w ad base σ φ s.heap) (x : ItAt ad φ s.heap it k src) (hi : it ∉ φ) (he : itemAt σ src k = some r)
    (q1 : ∀ v, r = some v → ∀ val h' tk, (∀ a o, a ≠ it → s.heap.get? a = some o → h'.get? a = some o) → ItAt ad φ h' it (k + 1) src → Rep ad φ h' val v → P (some val) { s with heap := h', toks := tk })
    (q0 : r = none → ∀ h' tk, (∀ a o, a ≠ it → s.heap.get? a = some o → h'.get? a = some o) → P none { s with heap := h', toks := tk }) :
    wpAny (model prog w) A (pyNext (.ref it)) P E s := by
  have hsoft : ∀ {h' : Heap}, (∀ a o, a ≠ it → s.heap.get? a = some o → h'.get? a = some o) → ∀ a o, Rigid o → s.heap.get? a = some o → h'.get? a = some o := by
    intro h' hk a o ho e
    refine hk a o (fun q => ?_) e
    subst q
    obtain ⟨o', e', hn⟩ := x.soft
    rw [e] at e'; cases e'; exact hn ho
  cases src with
  | tup vs =>
    obtain ⟨t, hit, hne, rt⟩ := x
    cases rt with
    | tup ht rr =>
      rename_i items n
      replace he := ite_some he
      obtain ⟨_, he⟩ := he
      cases he
      have hs := rr.size
      have htt : s.heap.IsTuple t items := ⟨_, ht, rfl, _, rfl⟩
      by_cases hk : k < vs.length
      · obtain ⟨x, hx, rx⟩ := rr.get (List.getElem?_eq_getElem hk)
        refine wpAny_pyNext_tuple_item hit htt (getElem_toList hx) fun h' hit' hs' => ?_
        have hk' : ∀ a o, a ≠ it → s.heap.get? a = some o → h'.get? a = some o := fun a o hn e => hs'.extBut a o hn e
        exact q1 _ (List.getElem?_eq_getElem hk) _ h' s.toks hk' ⟨t, hit', hne, .tup (hk' _ _ hne ht) (rr.mono (hsoft hk') (List.prefix_refl _))⟩ (rx.mono (hsoft hk') (List.prefix_refl _))
      · have hk2 : vs[k]? = none := List.getElem?_eq_none (by omega)
        refine wpAny_pyNext_tuple_end hh hit htt (Array.getElem?_eq_none (by omega)) fun h' hs' => q0 hk2 h' s.toks fun a o hn e => hs' a o hn e
  | rng a b c =>
    obtain ⟨hc, ha, hb, hit⟩ := x
    replace he := ite_some he
    obtain ⟨_, he⟩ := he
    cases he
    by_cases hk : k < rngLen a b c
    · refine wpAny_pyNext_range_item hit (by omega) fun h' hit' hs' => ?_
      have hk' : ∀ a o, a ≠ it → s.heap.get? a = some o → h'.get? a = some o := fun a o hn e => hs'.extBut a o hn e
      refine q1 _ (if_pos hk) _ h' _ hk' ⟨hc, ha, hb, ?_⟩ (.int _ _)
      have e1 : a + ((k + 1 : Nat) : Int) * c = a + (k : Int) * c + c := by push_cast; rw [Int.add_mul, Int.one_mul, Int.add_assoc]
      have e2 : (rngLen a b c : Int) - ((k + 1 : Nat) : Int) = (rngLen a b c : Int) - (k : Int) - 1 := by push_cast; omega
      rw [e1, e2]; exact hit'
    · refine wpAny_pyNext_range_end hh hit (by omega) fun h' hs' => q0 (if_neg hk) h' s.toks fun a o hn e => hs' a o hn e
  | ref n =>
    obtain ⟨l, hit, hne, hl⟩ := x
    replace he := cell_list (f := fun vs => if vs.length ≤ big then some vs[k]? else none) he
    obtain ⟨vs, e1, he⟩ := he
    obtain ⟨items, m, hl2, rr⟩ := I.cell _ _ _ e1 hl
    replace he := ite_some he
    obtain ⟨_, he⟩ := he
    cases he
    have hs := rr.size
    by_cases hk : k < vs.length
    · obtain ⟨x, hx, rx⟩ := rr.get (List.getElem?_eq_getElem hk)
      refine wpAny_pyNext_list_item hit hl2.isList (getElem_toList hx) fun h' hit' hs' => ?_
      have hk' : ∀ a o, a ≠ it → s.heap.get? a = some o → h'.get? a = some o := fun a o hn e => hs'.extBut a o hn e
      exact q1 _ (List.getElem?_eq_getElem hk) _ h' s.toks hk' ⟨l, hit', hne, hl⟩ (rx.mono (hsoft hk') (List.prefix_refl _))
    · have hk2 : vs[k]? = none := List.getElem?_eq_none (by omega)
      refine wpAny_pyNext_list_end hh hit hl2.isList (Array.getElem?_eq_none (by omega)) fun h' hs' => q0 hk2 h' s.toks fun a o hn e => hs' a o hn e
  | _ => exact x.elim
end
end Ab

end
section
set_option maxRecDepth 100000
namespace Ab
open PySem PySem.W PySem.Calls PyProof.Rows PySem.Spec

noncomputable def Bi.val : Bi → Value
  | .len => .builtin "len"
  | .tuple => .type "tuple"
  | .list => .type "list"
  | .sum => .builtin "sum"
  | .sorted => .builtin "sorted"
  | .range => .type "range"
  | .int => .type "int"
theorem insertI_perm (x : Int) : ∀ l : List Int, (insertI x l).Perm (x :: l)
  | [] => .refl _
  | y :: r => by
    unfold insertI; split
    · exact .refl _
    · exact ((insertI_perm x r).cons y).trans (.swap x y r)
theorem insertI_rises (x : Int) : ∀ l : List Int, l.Pairwise (· ≤ ·) → (insertI x l).Pairwise (· ≤ ·)
  | [], _ => by simp [insertI]
  | y :: r, h => by
    obtain ⟨h1, h2⟩ := List.pairwise_cons.mp h
    unfold insertI; split
    · refine List.pairwise_cons.mpr ⟨fun z hz => ?_, h⟩
      rcases List.mem_cons.mp hz with rfl | hz
      · omega
      · have := h1 z hz; omega
    · refine List.pairwise_cons.mpr ⟨fun z hz => ?_, insertI_rises x r h2⟩
      rcases List.mem_cons.mp ((insertI_perm x r).mem_iff.mp hz) with rfl | hz
      · omega
      · exact h1 z hz
theorem sortI_perm' : ∀ l : List Int, (Ab.sortI l).Perm l
  | [] => .refl _
  | x :: r => (insertI_perm x _).trans ((sortI_perm' r).cons x)
theorem sortI_rises' : ∀ l : List Int, (Ab.sortI l).Pairwise (· ≤ ·)
  | [] => .nil
  | x :: r => insertI_rises x _ (sortI_rises' r)
theorem sortI_uniq {ns ns' : List Int} (hp : ns'.Perm ns) (hs : ns'.Pairwise (· ≤ ·)) : ns' = Ab.sortI ns :=
  List.Perm.eq_of_pairwise (fun _ _ _ _ a b => Int.le_antisymm a b) hs (sortI_rises' ns) (hp.trans (sortI_perm' ns).symm)

section
variable {prog : Program} {w : World} {ad : Ads} {base : Heap} {σ σ' : Store} {φ φ' : List Addr} {s : Shared} {A : Around} {E : Value → Shared → Prop} {Q : Value → Shared → Prop}

/-- a new list, wherever it lies -/
theorem Ret.listAt (I : Inv prog w ad base σ φ s.heap) {vs : List V} {items : Array Value} {h' : Heap} {tk c : Nat} {D : Addr} (q : Ret prog w ad base φ s (σ ++ [.list vs]) (.ref σ.length) Q)
    (hn : s.heap.get? D = none) (hk : ∀ a o, s.heap.get? a = some o → h'.get? a = some o) (hD : IsL h' D items c) (r : Reps ad φ s.heap items.toList vs) :
    Q (.ref D) { s with heap := h', toks := tk } :=
  q _ _ (φ ++ [D]) (To.add I hn hk ⟨_, _, hD, r.mono (fun a o _ e => hk a o e) (List.prefix_append _ _)⟩) (.ref (by rw [← I.len]; simp))

theorem reps_ints {h : Heap} : ∀ {as : List V} {vs : List Value} {l : List Int}, Reps ad φ h vs as → allInts as = some l → IntsAre vs l
  | [], vs, l, r, e => by
    obtain rfl := r.inv
    cases e
    exact .nil
  | a :: as, vs, l, r, e => by
    obtain ⟨v, vs, rfl, x, y⟩ := r.inv
    cases a with
    | int i =>
      obtain ⟨t, rfl⟩ := x.inv
      have e : (allInts as).map (i :: ·) = some l := e
      obtain ⟨l, e2, rfl⟩ := Option.map_eq_some_iff.mp e
      exact .cons i t (reps_ints y e2)
    | _ => cases e
theorem ints_reps {h : Heap} : ∀ {vs : List Value} {l : List Int}, IntsAre vs l → Reps ad φ h vs (l.map .int)
  | _, _, .nil => .nil
  | _, _, .cons i t r => .cons (.int i t) (ints_reps r)
theorem ints_at {vs : List Value} {l : List Int} (r : IntsAre vs l) : ∀ {i : Nat} {v : Value}, vs[i]? = some v → ∃ t, v = .int (l.getD i 0) t := by
  induction r with
  | nil => intro i v e; simp at e
  | cons n t r ih =>
    intro i v e
    cases i with
    | zero => simp at e; subst e; exact ⟨t, rfl⟩
    | succ i => simp at e; obtain ⟨t, h⟩ := ih e; exact ⟨t, by simpa using h⟩

theorem psum_take (l : List Int) : ∀ j, preSum (fun i => l.getD i 0) j = (l.take j).sum
  | 0 => by simp [preSum]
  | j + 1 => by
    rw [preSum, psum_take l j, List.take_add_one, List.sum_append]
    cases e : l[j]? <;> simp [List.getD_eq_getElem?_getD, e]

theorem biOp_sound (T : ToldAt prog w ad base) (hh : A.handled = none) {b : Bi} {args : List Value} {as : List V} {v : V} (I : Inv prog w ad base σ φ s.heap) (ra : Reps ad φ s.heap args as) (he : biOp σ b as = some (v, σ'))
    (q : Ret prog w ad base φ s σ' v Q) : wpAny (model prog w) A (call b.val args) Q E s := by
  have b1 : big = 4096 := rfl
  have hsh := biOp_sh σ b as
  generalize biOp σ b as = r0 at he hsh
  cases hsh with
  | dead => cases he
  | lenT vs hb =>
    cases he
    obtain ⟨_, rfl, r⟩ := ra.i1
    obtain ⟨_, _, _, rfl, ht, rr⟩ := r.inv
    have := rr.size
    refine P.len_tuple ht (by omega) ?_
    rw [this]
    exact q.same I (.int _ _)
  | lenL n vs e1 hb =>
    cases he
    obtain ⟨_, rfl, r⟩ := ra.i1
    obtain ⟨x, rfl, e⟩ := r.inv
    obtain ⟨items, m, hl, rr⟩ := I.cell _ _ _ e1 e
    have := rr.size
    refine call_len_list hl.isList (by omega) ?_
    rw [this]
    exact q.same I (.int _ _)
  | tupL n vs e1 hb =>
    cases he
    obtain ⟨_, rfl, r⟩ := ra.i1
    obtain ⟨x, rfl, e⟩ := r.inv
    obtain ⟨items, m, hl, rr⟩ := I.cell _ _ _ e1 e
    have hs := rr.size
    refine call_tuple_list hl.isList (fun h' hk => ?_) (le_line (by omega))
    have hk2 : ∀ a o, s.heap.get? a = some o → (h'.push { cls := .type "tuple", data := .seq items }).get? a = some o := fun a o e => Heap.get?_push_of_some _ (hk a o e)
    exact q _ _ _ (To.kept I hk2 (tk := s.toks)) (.tup (IsT.new _ _) (rr.mono (fun a o _ e => hk2 a o e) (List.prefix_refl _)))
  | listL n vs e1 hb =>
    cases he
    obtain ⟨_, rfl, r⟩ := ra.i1
    obtain ⟨x, rfl, e⟩ := r.inv
    obtain ⟨items, m, hl, rr⟩ := I.cell _ _ _ e1 e
    have hs := rr.size
    exact call_list_seq _ (.inl rfl) hl rfl rfl (fun h' c' hk hD => q.listAt I (tk := s.toks) (get_size_none _) hk hD rr) (le_line (by omega))
  | listT vs hb =>
    cases he
    obtain ⟨_, rfl, r⟩ := ra.i1
    obtain ⟨_, _, _, rfl, ht, rr⟩ := r.inv
    have hs := rr.size
    exact call_list_seq _ (.inr rfl) ht rfl rfl (fun h' c' hk hD => q.listAt I (tk := s.toks) (get_size_none _) hk hD rr) (le_line (by omega))
  | listR a b c hc =>
    simp only [Bool.and_eq_true, decide_eq_true_eq] at hc
    cases he
    obtain ⟨_, rfl, r⟩ := ra.i1
    obtain ⟨_, _, _, _, rfl, hr⟩ := r.inv
    refine call_list_range hh hr (rng_small (.inl hc.1.1.1) hc.1.1.2 hc.1.2) (rng_size (.inl hc.1.1.1)) (by omega) fun h' tk acc c' hk hD hacc => ?_
    refine q.listAt I (get_size_none _) hk hD ?_
    have hia : IntsAre acc.toList ((List.range (rngLen a b c)).map fun (i : Nat) => a + (i : Int) * c) := by
      have key : ∀ (l : List Value) (k : Nat), (∀ (j : Nat) (v : Value), l[j]? = some v → ∃ t, v = Value.int (a + ((k + j : Nat) : Int) * c) t) → IntsAre l ((List.range' k l.length).map fun (i : Nat) => a + (i : Int) * c) := by
        intro l
        induction l with
        | nil => intro k _; exact .nil
        | cons x l ih =>
          intro k hl
          obtain ⟨t, hx⟩ := hl 0 x rfl
          subst hx
          refine .cons _ t (ih (k + 1) fun j v e => ?_)
          obtain ⟨t, hv⟩ := hl (j + 1) v (by simpa using e)
          exact ⟨t, by rw [hv]; congr 3; omega⟩
      have := key acc.toList 0 fun j v e => by
        have := hacc.2 j v (by simpa using e)
        simpa using this
      have hl : acc.toList.length = rngLen a b c := by simpa using hacc.1
      rw [hl, ← List.range_eq_range'] at this
      exact this
    have := ints_reps (ad := ad) (φ := φ) (h := s.heap) hia
    simpa [rngItems, Function.comp_def] using this
  | sum n vs e1 hb =>
    simp only [Option.map_eq_some_iff] at he
    obtain ⟨l, hl0, he⟩ := he
    cases he
    obtain ⟨_, rfl, r⟩ := ra.i1
    obtain ⟨x, rfl, e⟩ := r.inv
    obtain ⟨items, m, hl, rr⟩ := I.cell _ _ _ e1 e
    have hs := rr.size
    have hi := reps_ints rr hl0
    refine call_sum_walkAnyS (wpAny_pyIter_list hl.isList ?_)
    refine ⟨s.heap.objs.size, _, _, _, _, _, _, fun i => l.getD i 0, rfl, (Walks.list (A := A.in1) hh s.heap.objs.size x (mem_lt hl) items).toS, ?_, ?_, fun i v hv => ints_at hi (by simpa using hv), ?_⟩
    · exact ⟨⟨_, Heap.get?_push_size _ rfl, rfl, rfl⟩, hl.isList.push _⟩
    · intro b hb
      have := Heap.lt_size hl
      simp only [List.mem_cons, List.not_mem_nil, or_false] at hb
      show b < (s.heap.push _).objs.size
      rw [size_push']
      rcases hb with rfl | rfl
      · exact Nat.lt_succ_self _
      · exact Nat.lt_succ_of_lt this
    · intro s' t' hm
      have hll : items.size = l.length := by simpa using hi.length
      rw [psum_take, hll, List.take_length]
      have e0 := Moved.eq_with hm
      rw [e0]
      have hk : ∀ a o, s.heap.get? a = some o → s'.heap.get? a = some o := fun a o e => hm.heap a o (by
        simp only [List.mem_singleton]; exact Nat.ne_of_lt (Heap.lt_size e)) (Heap.get?_push_of_some _ e)
      exact q _ _ _ (To.kept I hk) (.int _ _)
  | sorted n kvs e1 hb =>
    cases he
    obtain ⟨_, rfl, r⟩ := ra.i1
    obtain ⟨x, rfl, e⟩ := r.inv
    obtain ⟨ps, hd, hk0, hr⟩ := I.cell _ _ _ e1 e
    obtain ⟨ep, hda⟩ := hd.dictAt
    have hlen : ps.length = kvs.length := by simpa using congrArg List.length hk0
    have K := PySem.W.kdl_dict (prog := prog) (w := w) (knd := intKind prog w) (d := x) (kvs := ps) (ep := ep) (T.cellNe I (List.mem_of_getElem? e))
    refine Calls.call_function_entry kind_sorted plain_sorted entry_sorted (args_sorted1 _) ?_
    unfold Builtin.«sorted»
    refine wpAny_bind (m := checkCount "sorted" 1 1 _) (wpAny_pure ?_)
    refine wpAny_bind (PySem.W.kdu_collect (A := A.in1) K hh hda (le_line (by omega)) fun h' tk acc hk hacc => ?_)
    have hla : acc.toList.length = ps.length := by rw [Array.length_toList]; exact hacc.1
    refine wpAny_bind (wpAny_newList ?_ (by rw [hla]; exact le_line (by omega)))
    have hI : IntsAre acc.toList (ps.map (·.1)) := by
      have key : ∀ (l : List Value) (qs : List (Int × Value)), l.length = qs.length → (∀ (j : Nat) (v : Value), l[j]? = some v → ∃ k y, qs[j]? = some (k, y) ∧ (intKind prog w).is k v = true) → IntsAre l (qs.map (·.1)) := by
        intro l
        induction l with
        | nil => intro qs hq _; cases qs with
          | nil => exact .nil
          | cons _ _ => simp at hq
        | cons y l ih =>
          intro qs hq hall
          cases qs with
          | nil => simp at hq
          | cons p qs =>
            obtain ⟨k, z, h1, h2⟩ := hall 0 y rfl
            simp at h1
            subst h1
            obtain ⟨t, rfl⟩ := Value.isInt_shape h2
            exact .cons k t (ih qs (by simpa using hq) fun j v hv => hall (j + 1) v (by simpa using hv))
      exact key _ _ hla fun j v e => hacc.2 j v (by rw [← Array.getElem?_toList]; exact e)
    have hD : (h'.push { cls := .type "list", data := .seq acc.toList.toArray }).get? h'.objs.size = some (seqObj "list" acc.toList.toArray 0) := Heap.get?_push_size _ rfl
    refine wpAny_bind (wpAny_holding (wpAny_call_entry slot_list_sort ⟨_, hD, rfl⟩ entry_list_sort (list_sort_tree hD hI (by omega) fun out ns' a1 a2 a3 => ⟨_, rfl, ?_⟩) (args_list_sort _)))
    refine wpAny_pure ⟨_, rfl, ?_⟩
    obtain ⟨c, hDc⟩ := sortedHeap_at (out := out) hD
    have hk2 : ∀ a o, s.heap.get? a = some o → (sortedHeap (h'.push { cls := .type "list", data := .seq acc.toList.toArray }) h'.objs.size acc.toList out).get? a = some o := by
      intro a o ea
      have e1 := hk a o ea
      rw [sortedHeap_old (Nat.ne_of_lt (Heap.lt_size e1)) (by rw [size_push']; exact Nat.lt_succ_of_lt (Heap.lt_size e1))]
      exact Heap.get?_push_of_some _ e1
    refine q.listAt I ?_ hk2 hDc ?_
    · cases e0 : s.heap.get? h'.objs.size with
      | none => rfl
      | some o => exact absurd (Heap.lt_size (hk _ _ e0)) (Nat.lt_irrefl _)
    · have := ints_reps (ad := ad) (φ := φ) (h := s.heap) a1
      rw [sortI_uniq a2 a3, hk0] at this
      exact this
  | range b hb =>
    cases he
    obtain ⟨_, rfl, r⟩ := ra.i1
    obtain ⟨t, rfl⟩ := r.inv
    refine call_range_1 ?_
    exact q _ _ _ (To.kept I fun a o e => Heap.get?_push_of_some _ e) (.rng (Heap.get?_push_size _ rfl))
  | range3 a b c hc =>
    simp only [Bool.and_eq_true, Bool.or_eq_true, decide_eq_true_eq] at hc
    cases he
    obtain ⟨_, _, _, rfl, r, r3, r5⟩ := ra.i3
    obtain ⟨_, rfl⟩ := r.inv
    obtain ⟨_, rfl⟩ := r3.inv
    obtain ⟨_, rfl⟩ := r5.inv
    have h1 := small_bounds hc.1.1
    have h2 := small_bounds hc.1.2
    refine call_range_3 (by rcases hc.2 with rfl | rfl <;> decide) ?_ (.inl (PyProof.noPylong_small (by omega)))
    exact q _ _ _ (To.kept I fun a o e => Heap.get?_push_of_some _ e) (.rng (Heap.get?_push_size _ rfl))
  | int i =>
    cases he
    obtain ⟨_, rfl, r⟩ := ra.i1
    obtain ⟨_, rfl⟩ := r.inv
    exact call_int_int (q.plain I (.int _ _))
end
end Ab

end
section
set_option maxRecDepth 100000
namespace Ab
open PySem PySem.W PySem.Calls PyProof.Rows PySem.Spec

theorem nm_inj {x y : Str} (hx : x ∈ names) (hy : y ∈ names) (e : nm x = nm y) : x = y := by
  have h1 := List.getElem_idxOf (List.idxOf_lt_length_of_mem hx)
  have h2 := List.getElem_idxOf (List.idxOf_lt_length_of_mem hy)
  unfold nm at e
  rw [← h1, ← h2]
  congr 1
theorem known_mem {x : Str} (h : known x = true) : x ∈ names := by
  unfold known at h
  exact List.contains_iff_mem.mp h

theorem lookup_mem {β : Type} {x : Str} {c : β} : ∀ {l : List (Str × β)}, l.lookup x = some c → (x, c) ∈ l
  | [], h => by simp at h
  | (y, d) :: r, h => by
    rw [List.lookup_cons] at h
    cases hxy : x == y with
    | true =>
      rw [hxy] at h
      rw [beq_iff_eq.mp hxy]
      cases h; exact List.mem_cons_self
    | false => rw [hxy] at h; exact List.mem_cons_of_mem _ (lookup_mem h)

/-- what a function's object says -/
structure FnAt (base : Heap) (a : Addr) (d : Arguments × List Stmt × Scope) : Prop where
  at_ : ∃ o fd, base.get? a = some o ∧ o.data = .func fd ∧ base.CodeRec fd.code fd.qualname ∧ fd.body = .stmts d.2.1 ∧ fd.scope = d.2.2 ∧ fd.globals = mainGlobals ∧ fd.builtins = builtinsNs ∧ fd.closure = [] ∧
    ∀ vals : List Value, vals.length = d.1.args.length → bindArgs fd ⟨vals, []⟩ = pure ((d.1.args.map (·.arg)).zip vals)
  co : d.2.2.isCoroutine = false
  gen : d.2.2.isGenerator = false
  kind : d.2.2.kind = .function
  known : ∀ x ∈ d.1.args.map (·.arg), x ∈ names ∧ (d.2.2.names.lookup x = some .local ∨ d.2.2.names.lookup x = some .cell)
  nodup : (d.1.args.map (·.arg)).Nodup
  scope : (d.2.2.names.map (·.1)).Nodup
  free : ∀ p ∈ d.2.2.names, p.2 ≠ .free

structure ClsAt (K : Frag) (ad : Ads) (c : Nat) : Prop where
  makes : makesIn K (ad.cls c) = true
  init : ∀ f, inits[c]? = some f → findIn K (.ref (ad.cls c)) "__init__" = some (some (.ref (ad.fn f))) ∧ typeIn K (.ref (ad.fn f)) = some (.type "function")
  meth : ∀ x f, x ∈ names → methOf c (nm x) = some f → findIn K (.ref (ad.cls c)) x = some (some (.ref (ad.fn f))) ∧ typeIn K (.ref (ad.fn f)) = some (.type "function")
  attr : ∀ x, okAttr x = true → findIn K (.ref (ad.cls c)) x = some none
  ga : findIn K (.ref (ad.cls c)) "__getattribute__" = some (some (.builtin "object.__getattribute__"))
  gb : findIn K (.ref (ad.cls c)) "__getattr__" = some none
  sa : findIn K (.ref (ad.cls c)) "__setattr__" = some (some (.builtin "object.__setattr__"))
  over : plainOver K (ad.cls c) = true
  dict : hasDictIn K (ad.cls c) = true

structure Text (prog : Program) (w : World) (ad : Ads) (base : Heap) (K : Frag) (mg mb : Str → Option Value) : Prop where
  told : ToldAt prog w ad base
  noLimit : base.NoLimit
  frag : K.In base
  g : base.Ns mainGlobals mg
  b : base.Ns builtinsNs mb
  gfn : ∀ f i, fnOf? f = some i → mg f = some (.ref (ad.fn i))
  gcls : ∀ f c, clsOf? f = some c → mg f = some (.ref (ad.cls c))
  gtold : mg ("_law_told" : Str) = some (.ref ad.told)
  gbi : ∀ f b, biOf f = some b → mg f = none ∧ mb f = some b.val
  gty : ∀ f t, tyOf f = some t → mg f = none ∧ mb f = some (.type t.nm)
  gisi : mg ("isinstance" : Str) = none ∧ mb ("isinstance" : Str) = some (.builtin "isinstance")
  fn : ∀ i d, decl i = some d → FnAt base (ad.fn i) d
  cls : ∀ c, c < 2 → ClsAt K ad c
  keepf : ∀ i d, decl i = some d → keepIn K (.ref (ad.fn i)) = true
  keepc : ∀ c, c < 2 → keepIn K (.ref (ad.cls c)) = true

/-- an environment against the store's names -/
structure Fm (ad : Ads) (base : Heap) (sc : Scope) (ρ : Loc) (env : Env) (φ : List Addr) (h : Heap) : Prop where
  fn : env.scope.kind = .function
  kl : ∀ x, sc.names.lookup x = some .local → env.kindOf x = some .local
  kg : ∀ x, sc.names.lookup x = some .globalImplicit → env.kindOf x = some .globalImplicit
  kc : ∀ x, sc.names.lookup x = some .cell → env.kindOf x = some .cell
  kf : ∀ x, sc.names.lookup x = some .free → env.kindOf x = some .cell ∨ env.kindOf x = some .free
  gl : env.globals = mainGlobals
  bu : env.builtins = builtinsNs
  own : env.locals ∉ φ ∧ base.get? env.locals = none
  loc : ∃ m, h.Ns env.locals m ∧ ∀ x v, x ∈ names → sc.names.lookup x = some .local → ρ (nm x) = some v → ∃ val, m x = some val ∧ Rep ad φ h val v
  cells : ∀ x c, (x, c) ∈ env.cells → (∃ v₀, h.IsCell c v₀) ∧ c ∉ φ ∧ base.get? c = none ∧ c ≠ env.locals
  cel : ∀ x, sc.names.lookup x = some .cell ∨ sc.names.lookup x = some .free → ∃ c v₀, env.cells.lookup x = some c ∧ h.IsCell c v₀ ∧
    ∀ v, x ∈ names → ρ (nm x) = some v → ∃ val, v₀ = some val ∧ Rep ad φ h val v
  inj : ∀ x y c, env.cells.lookup x = some c → env.cells.lookup y = some c → x = y

section
variable {prog : Program} {w : World} {ad : Ads} {base : Heap} {K : Frag} {mg mb : Str → Option Value} {σ σ' : Store} {φ φ' : List Addr} {s s' : Shared} {A : Around} {E : Value → Shared → Prop} {Q : Value → Shared → Prop}
  {sc : Scope} {ρ : Loc} {env : Env}

theorem Fm.mono {h h' : Heap} (F : Fm ad base sc ρ env φ h) (hk : ∀ a o, Rigid o → h.get? a = some o → h'.get? a = some o) (hp : φ <+: φ')
    (hl : ∀ o, h.get? env.locals = some o → h'.get? env.locals = some o) (hl2 : env.locals ∉ φ')
    (hc : ∀ x c, (x, c) ∈ env.cells → ∀ o, h.get? c = some o → h'.get? c = some o ∧ c ∉ φ') : Fm ad base sc ρ env φ' h' where
  fn := F.fn
  kl := F.kl
  kg := F.kg
  kc := F.kc
  kf := F.kf
  gl := F.gl
  bu := F.bu
  own := ⟨hl2, F.own.2⟩
  loc := by
    obtain ⟨m, ⟨o, es, ep, e, r⟩, hm⟩ := F.loc
    refine ⟨m, ⟨o, es, ep, hl _ e, r⟩, fun x v h1 h2 h3 => ?_⟩
    obtain ⟨val, h4, h5⟩ := hm x v h1 h2 h3
    exact ⟨val, h4, h5.mono hk hp⟩
  cells := fun x c hx => by
    obtain ⟨⟨v₀, o, e, r⟩, h2, h3, h4⟩ := F.cells x c hx
    obtain ⟨e', hc'⟩ := hc x c hx o e
    exact ⟨⟨v₀, o, e', r⟩, hc', h3, h4⟩
  cel := fun x hx => by
    obtain ⟨c, v₀, h1, ⟨o, e, r⟩, h6⟩ := F.cel x hx
    obtain ⟨e', hc'⟩ := hc x c (lookup_mem h1) o e
    refine ⟨c, v₀, h1, ⟨o, e', r⟩, fun v q1 q2 => ?_⟩
    obtain ⟨val, q3, q4⟩ := h6 v q1 q2
    exact ⟨val, q3, q4.mono hk hp⟩
  inj := F.inj

theorem Fm.to (F : Fm ad base sc ρ env φ s.heap) (x : To prog w ad base φ s σ' φ' s') : Fm ad base sc ρ env φ' s'.heap := by
  obtain ⟨m, ⟨o, es, ep, e, r⟩, hm⟩ := F.loc
  refine F.mono x.rigid x.pre (fun o e => x.kep F.own.1 e) (x.out e F.own.1) fun y c hy o e => ?_
  obtain ⟨_, hc, _⟩ := F.cells y c hy
  exact ⟨x.kep hc e, x.out e hc⟩

theorem name_loc (F : Fm ad base sc ρ env φ s.heap) {x : Str} {p : Pos} {v : V} (hx : x ∈ names) (hl : sc.names.lookup x = some .local) (hd : (x == ("__debug__" : Str)) = false) (hv : ρ (nm x) = some v)
    (q : ∀ val, Rep ad φ s.heap val v → Q val s) : wpAny (model prog w) A (eval (.Name x p) env) Q E s := by
  obtain ⟨m, hn, hm⟩ := F.loc
  obtain ⟨val, h1, h2⟩ := hm x v hx hl hv
  exact wpAny_Name (wpAny_loadName_local F.fn (F.kl x hl) hn h1 (q val h2)) hd

theorem name_cel (F : Fm ad base sc ρ env φ s.heap) {x : Str} {p : Pos} {v : V} (hx : x ∈ names) (hl : sc.names.lookup x = some .cell ∨ sc.names.lookup x = some .free) (hd : (x == ("__debug__" : Str)) = false)
    (hd2 : (x == ("__classdict__" : Str)) = false) (hv : ρ (nm x) = some v)
    (q : ∀ val, Rep ad φ s.heap val v → Q val s) : wpAny (model prog w) A (eval (.Name x p) env) Q E s := by
  obtain ⟨c, v₀, h1, h2, h6⟩ := F.cel x hl
  obtain ⟨val, rfl, h7⟩ := h6 v hx hv
  have hk : env.kindOf x = some .cell ∨ env.kindOf x = some .free := hl.elim (fun z => .inl (F.kc x z)) (F.kf x)
  rcases hk with hk | hk
  · exact wpAny_Name (wpAny_loadName_cell F.fn hk h1 h2 (q val h7)) hd
  · exact wpAny_Name (wpAny_loadName_free F.fn hk h1 h2 (q val h7) hd2) hd

theorem name_glob (T : Text prog w ad base K mg mb) (I : Inv prog w ad base σ φ s.heap) (F : Fm ad base sc ρ env φ s.heap) {x : Str} {p : Pos} {v : Value} (hl : sc.names.lookup x = some .globalImplicit) (hd : (x == ("__debug__" : Str)) = false) (hv : mg x = some v)
    (q : Q v s) : wpAny (model prog w) A (eval (.Name x p) env) Q E s :=
  Name_function_global F.fn (F.kg x hl) (loadGlobal_global (by rw [F.gl]; exact T.g.keeps I.stay) hv q) hd
theorem name_built (T : Text prog w ad base K mg mb) (I : Inv prog w ad base σ φ s.heap) (F : Fm ad base sc ρ env φ s.heap) {x : Str} {p : Pos} {v : Value} (hl : sc.names.lookup x = some .globalImplicit) (hd : (x == ("__debug__" : Str)) = false) (hv : mg x = none ∧ mb x = some v)
    (q : Q v s) : wpAny (model prog w) A (eval (.Name x p) env) Q E s :=
  Name_function_global F.fn (F.kg x hl) (loadGlobal_builtin (by rw [F.gl]; exact T.g.keeps I.stay) hv.1 (by rw [F.bu]; exact T.b.keeps I.stay) hv.2 q) hd

/-- a frame's own places -/
noncomputable def owns (env : Env) : List Addr := env.locals :: env.cells.map (·.2)

theorem Fm.owns_here (F : Fm ad base sc ρ env φ s.heap) : ∀ a ∈ owns env, ∃ o, s.heap.get? a = some o := by
  intro a ha
  rcases List.mem_cons.mp ha with rfl | ha
  · obtain ⟨m, ⟨o, _, _, e, _⟩, _⟩ := F.loc; exact ⟨o, e⟩
  · obtain ⟨⟨x, c⟩, hm, rfl⟩ := List.mem_map.mp ha
    obtain ⟨⟨v₀, o, e, _⟩, _⟩ := F.cells x c hm
    exact ⟨o, e⟩
theorem Fm.wide (F : Fm ad base sc ρ env φ s.heap) (x : To prog w ad base φ s σ' φ' s') : ToX prog w ad base (owns env) φ s σ' φ' s' := x.weaken F.owns_here

theorem upd_same {x : Nat} {v : V} : upd ρ x v x = some v := by simp [upd]
theorem upd_ne {x y : Nat} {v : V} (h : y ≠ x) : upd ρ x v y = ρ y := by simp [upd, h]

/-- a place of a frame changes -/
theorem ToX.place (I : Inv prog w ad base σ φ s.heap) {X : List Addr} {d : Addr} {h' : Heap} {tk : Nat} (hX : d ∈ X) (hφ : d ∉ φ) (hb : base.get? d = none) {o : Obj} (ho : s.heap.get? d = some o) (hs : ¬ Rigid o)
    (hk : ∀ a o, a ≠ d → s.heap.get? a = some o → h'.get? a = some o) : ToX prog w ad base X φ s σ φ { s with heap := h', toks := tk } := by
  have hr : ∀ a o, Rigid o → s.heap.get? a = some o → h'.get? a = some o := fun a o' hro e => hk a o' (fun q => by subst q; rw [ho] at e; cases e; exact hs hro) e
  refine ⟨rfl, rfl, fun a o _ ha e => hk a o (fun q => ha (q ▸ hX)) e, hr, List.prefix_refl _, fun _ ha => .inl ha, I.apart (fun b o' e => hk b o' (fun q => ?_) (I.stay b o' e)) (fun a ha o' e => hk a o' (fun q => hφ (q ▸ ha)) e) hr⟩
  rw [q, hb] at e; cases e

theorem soft_dict {o : Obj} {es ep} (h : o.data = .dict es ep) : ¬ Rigid o := fun q => by have := q.2; rw [h] at this; exact this
theorem soft_cell {o : Obj} {v} (h : o.data = .cell v) : ¬ Rigid o := fun q => by have := q.2; rw [h] at this; exact this

theorem store_sound (I : Inv prog w ad base σ φ s.heap) (F : Fm ad base sc ρ env φ s.heap) {x : Str} {val : Value} {v : V} {P : Unit → Shared → Prop} (hx : x ∈ names) (hl : sc.names.lookup x = some .local ∨ sc.names.lookup x = some .cell) (r : Rep ad φ s.heap val v)
    (q : ∀ s', ToX prog w ad base (owns env) φ s σ φ s' → Fm ad base sc (upd ρ (nm x) v) env φ s'.heap → P () s') : wpAny (model prog w) A (storeName env x val) P E s := by
  obtain ⟨m, hn, hm⟩ := F.loc
  have hn' := hn
  obtain ⟨o, es, ep, ho, hd, _⟩ := hn'
  rcases hl with hl | hl
  · refine wpAny_storeName_local (F.kl x hl) hn (fun h' hn2 hs => ?_) (by rw [F.fn]; rfl)
    have hk : ∀ a o, a ≠ env.locals → s.heap.get? a = some o → h'.get? a = some o := fun a o hne e => hs.extBut a o hne e
    have X : ToX prog w ad base (owns env) φ s σ φ { s with heap := h', toks := s.toks + 1 } := ToX.place I List.mem_cons_self F.own.1 F.own.2 ho (soft_dict hd) hk
    refine q _ X ⟨F.fn, F.kl, F.kg, F.kc, F.kf, F.gl, F.bu, F.own, ⟨_, hn2, fun y u h1 h2 h3 => ?_⟩, fun y c hy => ?_, fun y hy => ?_, F.inj⟩
    · by_cases e : y = x
      · subst e
        rw [upd_same] at h3
        cases h3
        exact ⟨val, by simp, X.rep r⟩
      · rw [upd_ne (fun z => e (nm_inj h1 hx z))] at h3
        obtain ⟨val', h4, h5⟩ := hm y u h1 h2 h3
        exact ⟨val', by simp [e, h4], X.rep h5⟩
    · obtain ⟨⟨v₀, hc⟩, h2, h3, h4⟩ := F.cells y c hy
      exact ⟨⟨v₀, hc.sameBut hs h4⟩, h2, h3, h4⟩
    · obtain ⟨c, v₀, h1, h2, h6⟩ := F.cel y hy
      obtain ⟨_, _, _, h4⟩ := F.cells y c (lookup_mem h1)
      refine ⟨c, v₀, h1, h2.sameBut hs h4, fun u q1 q2 => ?_⟩
      have e : y ≠ x := fun e => by subst e; rw [hl] at hy; rcases hy with z | z <;> cases z
      rw [upd_ne (fun z => e (nm_inj q1 hx z))] at q2
      obtain ⟨val', h4, h5⟩ := h6 u q1 q2
      exact ⟨val', h4, X.rep h5⟩
  · obtain ⟨c, v₀, hc1, hc2, hc6⟩ := F.cel x (.inl hl)
    obtain ⟨_, hcφ, hcb, hcl⟩ := F.cells x c (lookup_mem hc1)
    refine wpAny_storeName_cell F.fn (F.kc x hl) hc1 hc2 (fun h' hn2 hs => ?_)
    have hk : ∀ a o, a ≠ c → s.heap.get? a = some o → h'.get? a = some o := fun a o hne e => hs.extBut a o hne e
    have hc2' := hc2
    obtain ⟨oc, hoc, hdc⟩ := hc2'
    have X : ToX prog w ad base (owns env) φ s σ φ { s with heap := h', toks := s.toks } := ToX.place I (List.mem_cons_of_mem _ (List.mem_map.mpr ⟨_, lookup_mem hc1, rfl⟩)) hcφ hcb hoc (soft_cell hdc) hk
    refine q _ X ⟨F.fn, F.kl, F.kg, F.kc, F.kf, F.gl, F.bu, F.own, ⟨m, hn.sameBut hs (Ne.symm hcl), fun y u h1 h2 h3 => ?_⟩, fun y c' hy => ?_, fun y hy => ?_, F.inj⟩
    · have e : y ≠ x := fun e => by subst e; rw [hl] at h2; cases h2
      rw [upd_ne (fun z => e (nm_inj h1 hx z))] at h3
      obtain ⟨val', h4, h5⟩ := hm y u h1 h2 h3
      exact ⟨val', h4, X.rep h5⟩
    · obtain ⟨⟨v₁, hc'⟩, h2, h3, h4⟩ := F.cells y c' hy
      by_cases e : c' = c
      · subst e; exact ⟨⟨_, hn2⟩, h2, h3, h4⟩
      · exact ⟨⟨v₁, hc'.sameBut hs e⟩, h2, h3, h4⟩
    · by_cases e : y = x
      · subst e
        refine ⟨c, _, hc1, hn2, fun u q1 q2 => ?_⟩
        rw [upd_same] at q2
        cases q2
        exact ⟨val, rfl, X.rep r⟩
      · obtain ⟨c', v₁, h1, h2, h6⟩ := F.cel y hy
        have hne : c' ≠ c := fun z => by subst z; exact e (F.inj _ _ _ h1 hc1)
        refine ⟨c', v₁, h1, h2.sameBut hs hne, fun u q1 q2 => ?_⟩
        rw [upd_ne (fun z => e (nm_inj q1 hx z))] at q2
        obtain ⟨val', h4, h5⟩ := h6 u q1 q2
        exact ⟨val', h4, X.rep h5⟩
end
end Ab

end
section
set_option maxRecDepth 100000
namespace Ab
open PySem PySem.W PySem.Calls PyProof.Rows PySem.Spec

section
variable {ad : Ads} {φ : List Addr} {h : Heap}

theorem ent_plain : ∀ {es : List DictEntry} {fs : List (Nat × V)}, EntRep ad φ h es fs → es.any (·.refKey) = false
  | [], [], _ => rfl
  | e :: es, f :: fs, ⟨⟨x, t, h1, _⟩, _, r⟩ => by
    rw [List.any_cons, ent_plain r]
    unfold DictEntry.refKey
    rw [h1]; rfl
  | [], _ :: _, r => r.elim
  | _ :: _, [], r => r.elim
theorem ent_find {name : Str} (hn : name ∈ names) : ∀ {es : List DictEntry} {fs : List (Nat × V)}, EntRep ad φ h es fs →
    (∀ v, lookA (nm name) fs = some v → ∃ e, es.find? (fun x => x.key.isStr name) = some e ∧ Rep ad φ h e.val v) ∧ (lookA (nm name) fs = none → es.find? (fun x => x.key.isStr name) = none)
  | [], [], _ => ⟨fun v e => by simp [lookA] at e, fun _ => rfl⟩
  | e :: es, (a, u) :: fs, ⟨⟨x, t, h1, hx, h2⟩, h3, r⟩ => by
    obtain ⟨i1, i2⟩ := ent_find hn r
    dsimp only at h2 h3
    rw [List.find?_cons]
    by_cases q : a = nm name
    · have hxn : x = name := nm_inj hx hn (h2.trans q)
      have hs : e.key.isStr name = true := by rw [h1, hxn]; simp [Value.isStr]
      rw [hs]
      refine ⟨fun v ev => ?_, fun ev => ?_⟩
      · simp only [lookA, q, if_true] at ev
        cases ev; exact ⟨e, rfl, h3⟩
      · simp only [lookA, q, if_true] at ev; cases ev
    · have hxn : x ≠ name := fun z => q (by rw [← h2, z])
      have hs : e.key.isStr name = false := by rw [h1]; simpa [Value.isStr] using hxn
      rw [hs]
      refine ⟨fun v ev => ?_, fun ev => ?_⟩
      · simp only [lookA, if_neg q] at ev; exact i1 v ev
      · simp only [lookA, if_neg q] at ev; exact i2 ev
  | [], _ :: _, r => r.elim
  | _ :: _, [], r => r.elim
theorem ent_look {name : Str} (hn : name ∈ names) {es : List DictEntry} {fs : List (Nat × V)} {n : Nat} (r : EntRep ad φ h es fs) :
    (∀ v, lookA (nm name) fs = some v → ∃ val, lookIn name (W.dictOf es n) = some (some val) ∧ Rep ad φ h val v) ∧ (lookA (nm name) fs = none → lookIn name (W.dictOf es n) = some none) := by
  obtain ⟨i1, i2⟩ := ent_find hn r
  refine ⟨fun v ev => ?_, fun ev => ?_⟩
  · obtain ⟨e, h1, h2⟩ := i1 v ev
    refine ⟨e.val, ?_, h2⟩
    simp [lookIn, h1]
  · have h1 := i2 ev
    have h2 := ent_plain r
    simp only [lookIn, h1, h2, Bool.false_eq_true, if_false]
theorem ent_put {name : Str} (hn : name ∈ names) {hsh : Int} {t : Tok} {val : Value} {v : V} (hr : Rep ad φ h val v) : ∀ {es : List DictEntry} {fs : List (Nat × V)}, EntRep ad φ h es fs →
    EntRep ad φ h (putL name hsh (.str name t) val es) (putA (nm name) v fs)
  | [], [], _ => ⟨⟨name, t, rfl, hn, rfl⟩, hr, trivial⟩
  | e :: es, (a, u) :: fs, ⟨⟨x, t', h1, hx, h2⟩, h3, r⟩ => by
    dsimp only at h2 h3
    by_cases q : a = nm name
    · have hxn : x = name := nm_inj hx hn (h2.trans q)
      have hs : e.key.isStr name = true := by rw [h1, hxn]; simp [Value.isStr]
      simp only [putL, putA, hs, q, if_true]
      exact ⟨⟨x, t', h1, hx, by rw [hxn]⟩, hr, r⟩
    · have hxn : x ≠ name := fun z => q (by rw [← h2, z])
      have hs : e.key.isStr name = false := by rw [h1]; simpa [Value.isStr] using hxn
      simp only [putL, putA, hs, if_neg q, Bool.false_eq_true, if_false]
      exact ⟨⟨x, t', h1, hx, h2⟩, h3, ent_put hn hr r⟩
  | [], _ :: _, r => r.elim
  | _ :: _, [], r => r.elim
theorem ent_length : ∀ {es : List DictEntry} {fs : List (Nat × V)}, EntRep ad φ h es fs → es.length = fs.length
  | [], [], _ => rfl
  | _ :: es, _ :: fs, ⟨_, _, r⟩ => by simp [ent_length r]
  | [], _ :: _, r => r.elim
  | _ :: _, [], r => r.elim
end
theorem putL_length {name : Str} {hsh : Int} {k v : Value} : ∀ es : List DictEntry, (putL name hsh k v es).length ≤ es.length + 1
  | [] => by simp [putL]
  | e :: r => by
    have := putL_length (name := name) (hsh := hsh) (k := k) (v := v) r
    simp only [putL]; split <;> simp <;> omega

section
variable {prog : Program} {w : World} {ad : Ads} {base : Heap} {K : Frag} {mg mb : Str → Option Value} {σ σ' : Store} {φ φ' : List Addr} {s s' : Shared} {A : Around} {E : Value → Shared → Prop} {Q : Value → Shared → Prop}

/-- an object of a class, with its dict -/
theorem inst_at (I : Inv prog w ad base σ φ s.heap) {x : Addr} {n c : Nat} {fs : List (Nat × V)} {d : Addr} (h1 : s.heap.get? x = some (instObj (ad.cls c) d)) (h2 : φ[n]? = some d) (h3 : σ[n]? = some (.inst fs)) :
    ∃ es k, s.heap.get? d = some (W.dictOf es k) ∧ EntRep ad φ s.heap es fs ∧ InstAt s.heap x (instObj (ad.cls c) d) (ad.cls c) (some (W.dictOf es k)) := by
  obtain ⟨es, k, e, r⟩ := I.cell _ _ _ h3 h2
  exact ⟨es, k, e, r, ⟨h1, rfl, rfl, e⟩⟩

theorem attrOp_sound (T : Text prog w ad base K mg mb) {o : Value} {vo v : V} {a : Str} {b : Bool} (I : Inv prog w ad base σ φ s.heap) (ha : okAttr a = true) (ro : Rep ad φ s.heap o vo) (he : attrOp σ vo (nm a) = some v)
    (q : Ret prog w ad base φ s σ v Q) : wpAny (model prog w) A (getAttr o a b) Q E s := by
  have ham : a ∈ names := known_mem (by unfold okAttr at ha; exact (Bool.and_eq_true _ _ ▸ ha).1)
  cases ro with
  | obj h1 h2 =>
    rename_i x d n c
    replace he := ite_some he
    obtain ⟨hc, he⟩ := he
    split at he
    · rename_i fs h3
      obtain ⟨es, k, e, r, J⟩ := inst_at I h1 h2 h3
      obtain ⟨val, h4, h5⟩ := (ent_look (n := k) ham r).1 v he
      have C := T.cls c hc
      have X : K.In s.heap := T.frag.keeps I.stay
      refine get_value X J C.ga (findObj_own C.dict (C.attr a ha) rfl h4) ?_ (q.same I h5)
      cases h5 <;> rfl
    · cases he
  | _ => exact (nn he).elim

theorem osa_raw {R : Result → Shared → Prop} {x dx C : Addr} {ox : Obj} {name : Str} {tk : Tok} {v : Value} {es : List DictEntry} {n : Nat} (X : K.In s.heap) (J : InstAt s.heap x ox C (some (W.dictOf es n))) (hd : ox.dict = some dx)
    (hp : plainOver K C = true) (ht : takerIn K C name = some none) (hh : (clsIn K C).any (·.hasDict) = true) (hl : es.any (·.refKey) = false) (hz : es.length ≤ 900)
    (h : ∀ h' tk', h'.get? dx = some (W.dictOf (putL name (PyData.keyHash w.params name) (.str name tk') v es) (putN name es n)) → (∀ a o, a ≠ dx → s.heap.get? a = some o → h'.get? a = some o) → R (.ok (.ret .none)) { s with heap := h', toks := s.toks + 1 }) :
    codeAny (model prog w) A (.call (.builtin "object.__setattr__") ⟨[.ref x, .str name tk, v], []⟩) R s := by
  refine osa_open X J hp ht fun b => ?_
  obtain ⟨cd, hc, hd'⟩ := any_some hh
  obtain ⟨hx, hcl, -, D⟩ := J
  obtain ⟨oc, odi, oda, osl⟩ := ox
  dsimp only at hcl hd D
  subst hcl hd
  dsimp only at D
  have D' := Heap.get?_update_self (Obj.putName name (PyData.keyHash w.params name) (.str name s.toks) v) D (by rw [putName_dict]; rfl)
  rw [putName_dict] at D'
  refine wpAny_bind (wpAny_pure (wpAny_bind (wpAny_bind (wpAny_loadPart hx (wpAny_bind ((looks_clsIn X hc).here ?_))))))
  rw [hd']
  refine wpAny_pure (a := some dx) (wpAny_bind (wpAny_pure (wpAny_bind ?_)))
  unfold nsSet
  refine wpAny_bind (wpAny_bind (wpAny_askSetting (wpAny_pure (wpAny_bind (wpAny_mkText (wpAny_bind (wpAny_loadPart D ?_)))))))
  have c : (!es.toArray.any (·.key.isStr name) && es.toArray.any (·.refKey)) = false := by
    rw [← Array.any_toList, ← Array.any_toList]
    show (_ && es.any (·.refKey)) = false
    rw [hl, Bool.and_false]
  dsimp only
  rw [aRefKeyMayBeTheName_at, c]
  refine wpAny_updatePart D ?_
  have hlen := putL_length (name := name) (hsh := PyData.keyHash w.params name) (k := .str name s.toks) (v := v) es
  refine wpAny_bind (wpAny_lookBehind D' (pastItsLine_dict (by rw [List.size_toArray, sizeLine_eq]; omega)) ?_)
  exact wpAny_pure (h _ _ D' fun a o hne e => (Heap.get?_update_ne _ _ _ _ hne).trans e)

theorem setAttrOp_sound (T : Text prog w ad base K mg mb) {o val : Value} {vo v : V} {a : Str} {P : Unit → Shared → Prop} (I : Inv prog w ad base σ φ s.heap) (ha : okAttr a = true) (ro : Rep ad φ s.heap o vo) (rv : Rep ad φ s.heap val v)
    (he : setAttrOp σ vo (nm a) v = some σ') (q : ∀ s', To prog w ad base φ s σ' φ s' → P () s') : wpAny (model prog w) A (setAttr o a val) P E s := by
  have ham : a ∈ names := known_mem (by unfold okAttr at ha; exact (Bool.and_eq_true _ _ ▸ ha).1)
  cases ro with
  | obj h1 h2 =>
    rename_i x d n c
    replace he := ite_some he
    obtain ⟨hc, he⟩ := he
    split at he
    · rename_i fs h3
      replace he := ite_some he
      obtain ⟨hfs, he⟩ := he
      cases he
      obtain ⟨es, k, e, r, J⟩ := inst_at I h1 h2 h3
      have C := T.cls c hc
      have X : K.In s.heap := T.frag.keeps I.stay
      have hlen := ent_length r
      refine set_plain X J C.sa (osa_raw (s := { s with toks := s.toks + 1 }) X J rfl C.over (by unfold takerIn; rw [C.attr a ha]; rfl) C.dict (ent_plain r) (by omega) fun h' tk' hd hk => ?_)
      refine q _ (To.put I (tk := s.toks + 1 + 1) h2 hk ⟨_, _, hd, ?_⟩)
      have hsoft : ∀ a o, Rigid o → s.heap.get? a = some o → h'.get? a = some o := fun a o ho e' => hk a o (fun z => by subst z; rw [e] at e'; cases e'; exact soft_dict rfl ho) e'
      exact ent_put ham (rv.mono hsoft (List.prefix_refl _)) (r.mono hsoft (List.prefix_refl _))
    · cases he
  | _ => exact (nn he).elim
end
end Ab

end
section
set_option maxRecDepth 100000
namespace Ab
open PySem PySem.W PySem.Calls PyProof.Rows PySem.Spec

section
variable {prog : Program} {w : World} {ad : Ads} {base : Heap} {K : Frag} {mg mb : Str → Option Value} {σ σ' : Store} {φ φ' : List Addr} {s s' : Shared} {A : Around} {E : Value → Shared → Prop} {Q : Value → Shared → Prop}

theorem Inv.new (I : Inv prog w ad base σ φ s.heap) {d : Addr} (hd : s.heap.get? d = none) : base.get? d = none ∧ d ∉ φ := by
  refine ⟨?_, fun hm => ?_⟩
  · cases e : base.get? d with
    | none => rfl
    | some o => rw [I.stay d o e] at hd; cases hd
  · obtain ⟨o, e, _⟩ := I.obj hm
    rw [hd] at e; cases e

/-- an object made ahead becomes a cell -/
theorem ToX.late {X : List Addr} {d : Addr} {o : Obj} {c : Cell} {h' : Heap} {tk : Nat} (I0 : Inv prog w ad base σ φ s.heap) (x : ToX prog w ad base X φ s σ' φ' s') (hd : s.heap.get? d = none) (hd2 : s'.heap.get? d = some o) (hX : d ∉ X) (hφ : d ∉ φ') (ho : ¬ Rigid o)
    (hk : ∀ a o, a ≠ d → s'.heap.get? a = some o → h'.get? a = some o) (hc : RepC prog w ad (φ' ++ [d]) h' d c) : ToX prog w ad base X φ s (σ' ++ [c]) (φ' ++ [d]) { s' with heap := h', toks := tk } := by
  have I := x.inv
  have hr : ∀ a o, Rigid o → s'.heap.get? a = some o → h'.get? a = some o := fun a o' hro e => hk a o' (fun q => by subst q; rw [hd2] at e; cases e; exact ho hro) e
  have hb := (I0.new hd).1
  refine ⟨x.gens, x.os, fun a o' ha hx e => hk a o' (fun q => by subst q; rw [hd] at e; cases e) (x.keep a o' ha hx e), fun a o' hro e => hr a o' hro (x.rigid a o' hro e), x.pre.trans (List.prefix_append _ _), fun a ha => ?_, ?_⟩
  · rcases List.mem_append.mp ha with q | q
    · exact x.new a q
    · rw [List.mem_singleton.mp q]; exact .inr ⟨hd, hX⟩
  · refine ⟨fun b o' e => hk _ _ (fun q => by subst q; rw [hb] at e; cases e) (I.stay b o' e), by simp [I.len], ?_, fun a ha => ?_, fun i c' a e1 e2 => ?_⟩
    · rw [List.nodup_append]
      exact ⟨I.nodup, by simp, fun a ha b hb => by rw [List.mem_singleton.mp hb]; intro q; exact hφ (q ▸ ha)⟩
    · rcases List.mem_append.mp ha with q | q
      · exact I.fresh a q
      · rw [List.mem_singleton.mp q]; exact hb
    · by_cases hi : i < σ'.length
      · rw [List.getElem?_append_left hi] at e1
        rw [List.getElem?_append_left (I.len ▸ hi)] at e2
        exact (I.cell i c' a e1 e2).mono hr (List.prefix_append _ _) fun o' => hk a o' fun q => hφ (q ▸ List.mem_of_getElem? e2)
      · have hi2 : i = σ'.length := by
          have := (List.getElem?_eq_some_iff.mp e1).1
          simp at this; omega
        subst hi2
        rw [List.getElem?_append_right (Nat.le_refl _)] at e1
        rw [List.getElem?_append_right (by rw [I.len]; exact Nat.le_refl _), I.len] at e2
        simp at e1 e2
        subst e1 e2
        exact hc

theorem Inv.softAt (I : Inv prog w ad base σ φ s.heap) {n : Nat} {l : Addr} {o : Obj} (h : φ[n]? = some l) (e : s.heap.get? l = some o) : ¬ Rigid o := fun ho => I.rigid ho e (List.mem_of_getElem? h)

theorem setItemOp_sound {o i val : Value} {vo vi v : V} {P : Unit → Shared → Prop} (I : Inv prog w ad base σ φ s.heap) (ro : Rep ad φ s.heap o vo) (ri : Rep ad φ s.heap i vi) (rv : Rep ad φ s.heap val v)
    (he : setItemOp σ vo vi v = some σ') (q : ∀ s', To prog w ad base φ s σ' φ s' → P () s') : wpAny (model prog w) A (setItem o i val) P E s := by
  have b1 : big = 4096 := rfl
  cases ro with
  | ref e =>
    rename_i a n
    have soft : ∀ {h' : Heap}, (∀ b o, b ≠ a → s.heap.get? b = some o → h'.get? b = some o) → ∀ b o, Rigid o → s.heap.get? b = some o → h'.get? b = some o := fun hk b o ho eb => hk b o (fun z => by subst z; exact I.softAt e eb ho) eb
    cases ri with
    | int k t =>
      replace he := cell_two (f := fun vs => if 0 ≤ k ∧ k.toNat < vs.length ∧ vs.length ≤ big then some (σ.set n (.list (vs.set k.toNat v))) else none) (g := fun kvs => if kvs.length ≤ big then some (σ.set n (.dictI (putI k v kvs))) else none) he
      rcases he with ⟨vs, e1, he⟩ | ⟨kvs, e1, he⟩
      · skip
        replace he := ite_some he
        obtain ⟨hk, he⟩ := he
        cases he
        obtain ⟨items, m, hl, rr⟩ := I.cell _ _ _ e1 e
        have hs := rr.size
        refine ki_setAt hl hk.1 (by omega) (by omega) ?_
        have hu : ∀ b o, b ≠ a → s.heap.get? b = some o → (s.heap.update a (Obj.mapSeq (·.setIfInBounds k.toNat val))).get? b = some o := fun b o hne eb => (Heap.get?_update_ne _ _ _ _ hne).trans eb
        refine q _ (To.put I (tk := s.toks) e hu ⟨_, _, PySem.IsL.update hl _, ?_⟩)
        rw [Array.toList_setIfInBounds]
        exact (rr.mono (soft hu) (List.prefix_refl _)).set _ (rv.mono (soft hu) (List.prefix_refl _))
      · skip
        replace he := ite_some he
        obtain ⟨hk, he⟩ := he
        cases he
        obtain ⟨ps, hd, hr⟩ := I.cell _ _ _ e1 e
        have hlen : ps.length = kvs.length := PRep.length (f := fun i : Int => i) hr
        refine wpAny_setItem_pairs (intKind_is prog w k t) hd (fun h' hd' hs => ?_) (le_line (by omega))
        have hu : ∀ b o, b ≠ a → s.heap.get? b = some o → h'.get? b = some o := fun b o hne eb => hs.extBut b o hne eb
        refine q _ (To.put I e hu ⟨_, hd', ?_⟩)
        have hr' : PRep ad φ h' (fun i : Int => i) ps kvs := ⟨hr.1, hr.2.mono (soft hu) (List.prefix_refl _)⟩
        obtain ⟨_, _, _, _, _, _, _, _, hn⟩ := hd
        rw [put_I]
        exact PRep.put (f := fun i : Int => i) (fun _ _ e => e) hn hr' (rv.mono (soft hu) (List.prefix_refl _))
    | str x t =>
      replace he := cell_dictS (f := fun kvs => if kvs.length ≤ big then some (σ.set n (.dictS (putS x.cps.toList v kvs))) else none) he
      obtain ⟨kvs, e1, he⟩ := he
      replace he := ite_some he
      obtain ⟨hk, he⟩ := he
      cases he
      obtain ⟨ps, hd, hr⟩ := I.cell _ _ _ e1 e
      have hlen : ps.length = kvs.length := PRep.length (f := fun s : Str => s.cps.toList) hr
      refine wpAny_setItem_pairs (strKind_is prog w x t) hd (fun h' hd' hs => ?_) (le_line (by omega))
      have hu : ∀ b o, b ≠ a → s.heap.get? b = some o → h'.get? b = some o := fun b o hne eb => hs.extBut b o hne eb
      refine q _ (To.put I e hu ⟨_, hd', ?_⟩)
      have hr' : PRep ad φ h' (fun s : Str => s.cps.toList) ps kvs := ⟨hr.1, hr.2.mono (soft hu) (List.prefix_refl _)⟩
      obtain ⟨_, _, _, _, _, _, _, _, hn⟩ := hd
      rw [put_S]
      exact PRep.put (f := fun s : Str => s.cps.toList) str_inj hn hr' (rv.mono (soft hu) (List.prefix_refl _))
    | _ => exact (nn he).elim
  | _ => exact (nn he).elim

/-- the pairs of a display are stored -/
theorem mkDict_sound {d : Addr} {ks vs : List Value} {as bs : List V} {c : Cell} {P : PUnit → Shared → Prop} (rk : Reps ad φ s.heap ks as) (rv : Reps ad φ s.heap vs bs) (he : mkDict as bs = some c)
    (hd : s.heap.get? d = some { cls := .type "dict", data := .dict #[] })
    (q : ∀ h' tk, (∀ a o, a ≠ d → s.heap.get? a = some o → h'.get? a = some o) → RepC prog w ad φ h' d c → P PUnit.unit { s with heap := h', toks := tk }) :
    wpAny (model prog w) A (storeAll d (ks.zip vs)) P E s := by
  have soft : ∀ {h' : Heap}, (∀ b o, b ≠ d → s.heap.get? b = some o → h'.get? b = some o) → ∀ b o, Rigid o → s.heap.get? b = some o → h'.get? b = some o :=
    fun hk b o ho eb => hk b o (fun z => by subst z; rw [hd] at eb; cases eb; exact soft_dict rfl ho) eb
  have hnI : s.heap.DictOf (intKind prog w) d [] := ⟨_, #[], 0, hd, ⟨rfl, rfl, rfl⟩, rfl, fun _ he => by simp at he, Pairs.nil, List.nodup_nil⟩
  have hnS : s.heap.DictOf (strKind prog w) d [] := ⟨_, #[], 0, hd, ⟨rfl, rfl, rfl⟩, rfl, fun _ he => by simp at he, Pairs.nil, List.nodup_nil⟩
  cases mkDict_sh he with
  | nil =>
    obtain rfl := rk.inv
    obtain rfl := rv.inv
    unfold storeAll
    rw [show (([] : List Value).zip ([] : List Value)) = [] from rfl, List.forIn_nil]
    exact wpAny_pure (q s.heap s.toks (fun _ _ _ e => e) ⟨[], hnI, rfl, .nil⟩)
  | one k v =>
    obtain ⟨_, rfl, r1⟩ := rk.i1
    obtain ⟨val, rfl, r3⟩ := rv.i1
    obtain ⟨t, rfl⟩ := r1.inv
    refine wpAny_storeAll (knd := intKind prog w) _ [(k, val)] [] s P ⟨intKind_is prog w k t, rfl, trivial⟩ hnI (by simp; unfold sizeLine; omega) fun h' hd' hs => ?_
    have hu : ∀ b o, b ≠ d → s.heap.get? b = some o → h'.get? b = some o := fun b o hne eb => hs.extBut b o hne eb
    refine q h' _ hu ⟨_, hd', ?_⟩
    rw [show merged [] [(k, val)] = [(k, val)] from by simp [merged, stored]]
    exact ⟨rfl, .cons (r3.mono (soft hu) (List.prefix_refl _)) .nil⟩
  | oneS a v =>
    obtain ⟨_, rfl, r1⟩ := rk.i1
    obtain ⟨val, rfl, r3⟩ := rv.i1
    obtain ⟨x, t, rfl, rfl⟩ := r1.inv
    refine wpAny_storeAll (knd := strKind prog w) _ [(x, val)] [] s P ⟨strKind_is prog w x t, rfl, trivial⟩ hnS (by simp; unfold sizeLine; omega) fun h' hd' hs => ?_
    have hu : ∀ b o, b ≠ d → s.heap.get? b = some o → h'.get? b = some o := fun b o hne eb => hs.extBut b o hne eb
    refine q h' _ hu ⟨_, hd', ?_⟩
    rw [show merged [] [(x, val)] = [(x, val)] from by simp [merged, stored]]
    exact ⟨rfl, .cons (r3.mono (soft hu) (List.prefix_refl _)) .nil⟩
  | twoS a b v u =>
    obtain ⟨_, _, rfl, r1, r5⟩ := rk.i2
    obtain ⟨val, val', rfl, r3, r7⟩ := rv.i2
    obtain ⟨x, t, rfl, rfl⟩ := r1.inv
    obtain ⟨y, t', rfl, rfl⟩ := r5.inv
    refine wpAny_storeAll (knd := strKind prog w) _ [(x, val), (y, val')] [] s P ⟨strKind_is prog w x t, rfl, strKind_is prog w y t', rfl, trivial⟩ hnS (by simp; unfold sizeLine; omega) fun h' hd' hs => ?_
    have hu : ∀ b o, b ≠ d → s.heap.get? b = some o → h'.get? b = some o := fun b o hne eb => hs.extBut b o hne eb
    refine q h' _ hu ⟨_, hd', ?_⟩
    rw [show merged [] [(x, val), (y, val')] = stored [(x, val)] y val' from by simp [merged, stored], put_S]
    exact PRep.put (f := fun s : Str => s.cps.toList) str_inj (by simp) ⟨rfl, .cons (r3.mono (soft hu) (List.prefix_refl _)) .nil⟩ (r7.mono (soft hu) (List.prefix_refl _))
end
end Ab

end
section
set_option maxRecDepth 100000
namespace Ab
open PySem PySem.W PySem.Calls PyProof.Rows PySem.Spec

theorem one_some {α β : Type} {x : Option α} {f : α → Option β} {b : β} : one? x f = some b ↔ ∃ a, x = some a ∧ f a = some b := by
  cases x with
  | none => simp [one?]
  | some a => simp [one?]

/-- how much room is left -/
noncomputable def AOk (n : Nat) (A : Around) : Prop := A.handled = none ∧ A.depth + 2 * n + 10 < recursionLimit ∧ A.units + 16 * n + 300 < cLine
theorem AOk.less {n m : Nat} {A : Around} (h : AOk n A) (hm : m ≤ n) : AOk m A := ⟨h.1, by have := h.2.1; omega, by have := h.2.2; omega⟩
theorem AOk.deeper {n : Nat} {A : Around} {env : Env} (h : AOk (n + 1) A) : AOk n (A.deeper env) := by
  obtain ⟨h1, h2, h3⟩ := h
  refine ⟨h1, ?_, ?_⟩
  · show A.depth + 1 + 2 * n + 10 < _; omega
  · show A.units + 3 + 16 * n + 300 < _; omega

section
variable (prog : Program) (w : World) (ad : Ads) (base : Heap)

noncomputable def SE (n : Nat) : Prop := ∀ {k : Nat} {sc : Scope} {e : Expr} {ρ : Loc} {σ : Store} {v : V} {σ' : Store} {φ : List Addr} {s : Shared} {env : Env} {A : Around} {E Q : Value → Shared → Prop},
  ev n (trE k sc e) ρ σ = some (v, σ') → Fm ad base sc ρ env φ s.heap → Inv prog w ad base σ φ s.heap → AOk n A → Ret prog w ad base φ s σ' v Q → wpAny (model prog w) A (eval e env) Q E s

noncomputable def ST (n : Nat) : Prop := ∀ {k : Nat} {sc : Scope} {e : Expr} {ρ : Loc} {σ : Store} {v : V} {t : Bool} {σ' : Store} {φ : List Addr} {s : Shared} {env : Env} {A : Around} {E : Value → Shared → Prop} {Q : Bool → Shared → Prop},
  ev n (trE k sc e) ρ σ = some (v, σ') → truthy v = some t → Fm ad base sc ρ env φ s.heap → Inv prog w ad base σ φ s.heap → AOk n A → (∀ s' φ', To prog w ad base φ s σ' φ' s' → Q t s') →
    wpAny (model prog w) A (isTrue e env (eval e env)) Q E s

noncomputable def SC (n : Nat) : Prop := ∀ {i : Nat} {vs : List V} {vals : List Value} {σ : Store} {r : V} {σ' : Store} {φ : List Addr} {s : Shared} {A : Around} {R : Result → Shared → Prop},
  callF n i vs σ = some (r, σ') → Inv prog w ad base σ φ s.heap → Reps ad φ s.heap vals vs → AOk n A → (∀ s' φ' val, To prog w ad base φ s σ' φ' s' → Rep ad φ' s'.heap val r → R (.ok (.ret val)) s') →
    codeAny (model prog w) A (.call (.ref (ad.fn i)) ⟨vals, []⟩) R s

noncomputable def FlOk (ad : Ads) (fl : Fl) (φ : List Addr) (s : Shared) (Q : Flow → Shared → Prop) : Prop := match fl with
  | .next => Q .next s
  | .ret v => ∀ val, Rep ad φ s.heap val v → Q (.ret val) s
/-- a statement's outcome, with the value it hands back -/
noncomputable def FlIs (ad : Ads) (fl : Fl) (φ : List Addr) (s : Shared) (f : Flow) : Prop := match fl with
  | .next => f = .next
  | .ret v => ∃ val, f = .ret val ∧ Rep ad φ s.heap val v

noncomputable def SS (n : Nat) : Prop := ∀ {k : Nat} {sc : Scope} {st : Stmt} {ρ : Loc} {σ : Store} {fl : Fl} {ρ' : Loc} {σ' : Store} {φ : List Addr} {s : Shared} {env : Env} {A : Around} {E : Value → Shared → Prop} {Q : Flow → Shared → Prop},
  exec n (trS k sc st) ρ σ = some (fl, ρ', σ') → Fm ad base sc ρ env φ s.heap → Inv prog w ad base σ φ s.heap → AOk n A →
    (∀ s' φ' f, ToX prog w ad base (owns env) φ s σ' φ' s' → Fm ad base sc ρ' env φ' s'.heap → FlIs ad fl φ' s' f → Q f s') → wpAny (model prog w) A (PySem.exec st env) Q E s
end

theorem ev_dead {n : Nat} {ρ : Loc} {σ : Store} {r : V × Store} (h : ev n .dead ρ σ = some r) : False := by
  cases n <;> exact nn h

theorem star_cons {e : Expr} {r : List Expr} {env : Env} (h : isStarE e = false) : starEach (e :: r) env = (false, eval e env) :: starEach r env := by
  cases e <;> first | rfl | cases h

section
variable {prog : Program} {w : World} {ad : Ads} {base : Heap} {K : Frag} {mg mb : Str → Option Value} {σ σ' : Store} {φ φ' : List Addr} {s s' : Shared} {A : Around} {E : Value → Shared → Prop} {Q : Value → Shared → Prop}
  {n k : Nat} {sc : Scope} {ρ : Loc} {env : Env} {v : V} {pos : Pos}

theorem Ret.after {v : V} {σ1 : Store} {φ1 : List Addr} {s1 : Shared} (x : To prog w ad base φ s σ1 φ1 s1) (q : Ret prog w ad base φ s σ' v Q) : Ret prog w ad base φ1 s1 σ' v Q :=
  fun val s' φ' y r => q val s' φ' (x.trans y) r

/-- arguments, from the left -/
theorem ses (H : SE prog w ad base n) : ∀ {es : List Expr} {vs : List V} {σ : Store} {φ : List Addr} {s : Shared} {P : List Value → Shared → Prop},
    evs (fun e σ => ev n e ρ σ) (es.map (trE k sc)) σ = some (vs, σ') → es.any isStarE = false → Fm ad base sc ρ env φ s.heap → Inv prog w ad base σ φ s.heap → AOk n A →
    (∀ vals s' φ', To prog w ad base φ s σ' φ' s' → Reps ad φ' s'.heap vals vs → P vals s') → wpAny (model prog w) A (spliced (backTo pos (starEach es env))) P E s
  | [], vs, σ, φ, s, P, he, _, F, I, _, q => by
    simp only [List.map_nil, evs] at he
    cases he
    exact wpAny_items_nil (q _ _ _ (To.refl I) .nil)
  | e :: r, vs, σ, φ, s, P, he, hst, F, I, HA, q => by
    simp only [List.any_cons, Bool.or_eq_false_iff] at hst
    simp only [List.map_cons, evs] at he
    split at he
    · rename_i v1 σ1 h1
      split at he
      · rename_i vs1 σ2 h2
        cases he
        refine wpAny_items_cons (H h1 F I HA fun val s1 φ1 x1 r1 => ?_) (star_cons hst.1)
        refine ses H h2 hst.2 (F.to x1) x1.inv HA fun vals s2 φ2 x2 r2 => ?_
        exact q _ _ _ (x1.trans x2) (.cons (x2.rep r1) r2)
      · cases he
    · cases he

theorem se_const (he : ev (n + 1) (trC c) ρ σ = some (v, σ')) (I : Inv prog w ad base σ φ s.heap) (q : Ret prog w ad base φ s σ' v Q) : wpAny (model prog w) A (eval (.Constant c kd pos) env) Q E s := by
  cases c with
  | none => cases he; exact wpAny_Constant_none (q.plain I .none)
  | bool b => cases he; exact wpAny_Constant_bool (q.plain I (.bool b))
  | int i => cases he; exact wpAny_Constant_int (q.same I (.int i _))
  | str x => cases he; exact wpAny_Constant_str (q.same I (.str x _))
  | _ => exact (nn he).elim

theorem se_name (T : Text prog w ad base K mg mb) {x : Str} (he : ev (n + 1) (trName sc x) ρ σ = some (v, σ')) (F : Fm ad base sc ρ env φ s.heap) (I : Inv prog w ad base σ φ s.heap) (q : Ret prog w ad base φ s σ' v Q) :
    wpAny (model prog w) A (eval (.Name x pos) env) Q E s := by
  unfold trName at he
  split at he
  · exact (ev_dead he).elim
  · rename_i hd
    simp only [Bool.or_eq_true, not_or, Bool.not_eq_true] at hd
    split at he
    · rename_i hl
      split at he
      · rename_i hk
        simp only [ev, Option.map_eq_some_iff] at he
        obtain ⟨a, h1, h2⟩ := he
        cases h2
        exact name_loc F (known_mem hk) hl hd.1 h1 fun val r => q.plain I r
      · exact (ev_dead he).elim
    · rename_i hl
      split at he
      · rename_i hk
        simp only [ev, Option.map_eq_some_iff] at he
        obtain ⟨a, h1, h2⟩ := he
        cases h2
        exact name_cel F (known_mem hk) (.inl hl) hd.1 hd.2 h1 fun val r => q.plain I r
      · exact (ev_dead he).elim
    · rename_i hl
      split at he
      · rename_i hk
        simp only [ev, Option.map_eq_some_iff] at he
        obtain ⟨a, h1, h2⟩ := he
        cases h2
        exact name_cel F (known_mem hk) (.inr hl) hd.1 hd.2 h1 fun val r => q.plain I r
      · exact (ev_dead he).elim
    · rename_i hl
      split at he
      · rename_i hk
        simp only [ev] at he
        cases he
        have hx : x = ("_law_told" : Str) := beq_iff_eq.mp hk
        exact name_glob T I F hl hd.1 (by rw [hx]; exact T.gtold) (q.plain I .told)
      · exact (ev_dead he).elim
    · exact (ev_dead he).elim

theorem se_bin (H : SE prog w ad base n) {l r : Expr} {op : Operator} (he : ev (n + 1) (.bin op (trE k sc l) (trE k sc r)) ρ σ = some (v, σ')) (F : Fm ad base sc ρ env φ s.heap) (I : Inv prog w ad base σ φ s.heap) (HA : AOk (n + 1) A)
    (q : Ret prog w ad base φ s σ' v Q) : wpAny (model prog w) A (eval (.BinOp l op r pos) env) Q E s := by
  simp only [ev, one_some, Option.map_eq_some_iff] at he
  obtain ⟨⟨a, σ1⟩, h1, ⟨b, σ2⟩, h2, c, h3, h4⟩ := he
  cases h4
  refine wpAny_BinOp (H h1 F I (HA.less (Nat.le_succ _)) fun val s1 φ1 x1 r1 => H h2 (F.to x1) x1.inv (HA.less (Nat.le_succ _)) fun val2 s2 φ2 x2 r2 => ?_)
  exact binOp_sound x2.inv (x2.rep r1) r2 h3 (q.after (x1.trans x2))

theorem se_cmp (T : Text prog w ad base K mg mb) (H : SE prog w ad base n) {l r : Expr} {op : CmpOp} (hm : behindInMarks op r = false) (he : ev (n + 1) (.cmp op (trE k sc l) (trE k sc r)) ρ σ = some (v, σ')) (F : Fm ad base sc ρ env φ s.heap) (I : Inv prog w ad base σ φ s.heap) (HA : AOk (n + 1) A)
    (q : Ret prog w ad base φ s σ' v Q) : wpAny (model prog w) A (eval (.Compare l [op] [r] pos) env) Q E s := by
  simp only [ev, one_some, Option.map_eq_some_iff] at he
  obtain ⟨⟨a, σ1⟩, h1, ⟨b, σ2⟩, h2, c, h3, h4⟩ := he
  cases h4
  refine wpAny_Compare1 (H h1 F I (HA.less (Nat.le_succ _)) fun val s1 φ1 x1 r1 => H h2 (F.to x1) x1.inv (HA.less (Nat.le_succ _)) fun val2 s2 φ2 x2 r2 => ?_) hm
  exact cmpOp_sound T.told x2.inv (by have := HA.2.2; omega) (x2.rep r1) r2 h3 (q.after (x1.trans x2))

theorem st_cmp (T : Text prog w ad base K mg mb) (H : SE prog w ad base n) {l r : Expr} {op : CmpOp} {t : Bool} {whole : Sem Value} {Q : Bool → Shared → Prop} (hm : behindInMarks op r = false) (he : ev (n + 1) (.cmp op (trE k sc l) (trE k sc r)) ρ σ = some (v, σ')) (ht : truthy v = some t) (F : Fm ad base sc ρ env φ s.heap) (I : Inv prog w ad base σ φ s.heap) (HA : AOk (n + 1) A)
    (q : ∀ s' φ', To prog w ad base φ s σ' φ' s' → Q t s') : wpAny (model prog w) A (isTrue (.Compare l [op] [r] pos) env whole) Q E s := by
  simp only [ev, one_some, Option.map_eq_some_iff] at he
  obtain ⟨⟨a, σ1⟩, h1, ⟨b, σ2⟩, h2, c, h3, h4⟩ := he
  cases h4
  refine wpAny_isTrue_Compare1 (H h1 F I (HA.less (Nat.le_succ _)) fun val s1 φ1 x1 r1 => H h2 (F.to x1) x1.inv (HA.less (Nat.le_succ _)) fun val2 s2 φ2 x2 r2 => ?_) hm
  exact cmpOp_sound T.told x2.inv (by have := HA.2.2; omega) (x2.rep r1) r2 h3 fun val3 s3 φ3 x3 r3 => truthy_sound r3 ht (q _ _ ((x1.trans x2).trans x3))
end
end Ab

end
section
set_option maxRecDepth 100000
namespace Ab
open PySem PySem.W PySem.Calls PyProof.Rows PySem.Spec

section
variable {prog : Program} {w : World} {ad : Ads} {base : Heap} {K : Frag} {mg mb : Str → Option Value} {σ σ' : Store} {φ φ' : List Addr} {s s' : Shared} {A : Around} {E : Value → Shared → Prop} {Q : Value → Shared → Prop}
  {n k : Nat} {sc : Scope} {ρ : Loc} {env : Env} {v : V} {pos : Pos}

theorem wpAny_rel {vs ws : List Value} {Q : Unit → Shared → Prop} {M : Model} (h : Q () s) : wpAny M A (release vs ws) Q E s := fun Γ p hΓ => by
  rw [Sem.wp_release]; exact h

theorem se_cmp2 (T : Text prog w ad base K mg mb) (H : SE prog w ad base n) {l m r : Expr} {o1 o2 : CmpOp} (hm : behindInMarks o2 r = false) (he : ev (n + 1) (.cmp2 o1 o2 (trE k sc l) (trE k sc m) (trE k sc r)) ρ σ = some (v, σ')) (F : Fm ad base sc ρ env φ s.heap) (I : Inv prog w ad base σ φ s.heap) (HA : AOk (n + 1) A)
    (q : Ret prog w ad base φ s σ' v Q) : wpAny (model prog w) A (eval (.Compare l [o1, o2] [m, r] pos) env) Q E s := by
  have HA' := HA.less (Nat.le_succ n)
  have hu : A.units + 64 < cLine := by have := HA.2.2; omega
  simp only [ev, one_some] at he
  obtain ⟨⟨a, σ1⟩, h1, ⟨b, σ2⟩, h2, c, h3, t, h4, h5⟩ := he
  rw [arm_eval_Compare]
  refine wpAny_bind (H h1 F I HA' fun val s1 φ1 x1 r1 => ?_)
  show wpAny _ A (compareChain pos val [o1, o2] [eval m env, markedBehindIn o2 r (eval r env)]) Q E s1
  rw [markedBehindIn_of_false hm]
  unfold compareChain
  refine wpAny_bind (wpAny_holding (H h2 (F.to x1) x1.inv HA' fun val2 s2 φ2 x2 r2 => wpAny_bind (wpAny_standAt (wpAny_bind (wpAny_holding (cmpOp_sound T.told x2.inv hu (x2.rep r1) r2 h3 fun cv s3 φ3 x3 r3 => wpAny_bind (wpAny_rel (wpAny_bind (wpAny_holding (truthy_sound r3 h4 ?_))))))))))
  split at h5
  · rename_i ht
    rw [if_pos ht]
    unfold compareChain
    simp only [one_some, Option.map_eq_some_iff] at h5
    obtain ⟨⟨d, σ4⟩, h6, e, h7, h8⟩ := h5
    cases h8
    have x03 := (x1.trans x2).trans x3
    refine wpAny_bind (wpAny_holding (H h6 (F.to x03) x3.inv HA' fun val4 s4 φ4 x4 r4 => wpAny_bind (wpAny_standAt (wpAny_operating ?_))))
    exact cmpOp_sound T.told x4.inv hu (x4.rep (x3.rep r2)) r4 h7 (q.after (x03.trans x4))
  · rename_i ht
    rw [if_neg ht]
    cases h5
    exact wpAny_pure (q _ _ _ ((x1.trans x2).trans x3) r3)

theorem st_cmp2 (T : Text prog w ad base K mg mb) (H : SE prog w ad base n) {l m r : Expr} {o1 o2 : CmpOp} {tt : Bool} {whole : Sem Value} {Q : Bool → Shared → Prop} (hm : behindInMarks o2 r = false) (he : ev (n + 1) (.cmp2 o1 o2 (trE k sc l) (trE k sc m) (trE k sc r)) ρ σ = some (v, σ')) (htt : truthy v = some tt) (F : Fm ad base sc ρ env φ s.heap) (I : Inv prog w ad base σ φ s.heap) (HA : AOk (n + 1) A)
    (q : ∀ s' φ', To prog w ad base φ s σ' φ' s' → Q tt s') : wpAny (model prog w) A (isTrue (.Compare l [o1, o2] [m, r] pos) env whole) Q E s := by
  have HA' := HA.less (Nat.le_succ n)
  have hu : A.units + 64 < cLine := by have := HA.2.2; omega
  simp only [ev, one_some] at he
  obtain ⟨⟨a, σ1⟩, h1, ⟨b, σ2⟩, h2, c, h3, t, h4, h5⟩ := he
  rw [arm_isTrue_Compare]
  refine wpAny_bind (H h1 F I HA' fun val s1 φ1 x1 r1 => ?_)
  show wpAny _ A (testChain pos val [o1, o2] [eval m env, markedBehindIn o2 r (eval r env)]) Q E s1
  rw [markedBehindIn_of_false hm]
  unfold testChain
  refine wpAny_bind (wpAny_holding (H h2 (F.to x1) x1.inv HA' fun val2 s2 φ2 x2 r2 => wpAny_bind (wpAny_standAt (wpAny_bind (wpAny_holding (cmpOp_sound T.told x2.inv hu (x2.rep r1) r2 h3 fun cv s3 φ3 x3 r3 => wpAny_bind (wpAny_rel (wpAny_bind (wpAny_holding (truthy_sound r3 h4 ?_))))))))))
  split at h5
  · rename_i ht
    rw [if_pos ht]
    unfold testChain
    simp only [one_some, Option.map_eq_some_iff] at h5
    obtain ⟨⟨d, σ4⟩, h6, e, h7, h8⟩ := h5
    cases h8
    have x03 := (x1.trans x2).trans x3
    refine wpAny_bind (wpAny_holding (H h6 (F.to x03) x3.inv HA' fun val4 s4 φ4 x4 r4 => wpAny_bind (wpAny_standAt (wpAny_bind (wpAny_operating ?_)))))
    exact cmpOp_sound T.told x4.inv hu (x4.rep (x3.rep r2)) r4 h7 fun cv5 s5 φ5 x5 r5 => wpAny_holding (truthy_sound r5 htt (q _ _ ((x03.trans x4).trans x5)))
  · rename_i ht
    rw [if_neg ht]
    cases h5
    rw [h4] at htt
    cases htt
    have ht2 : tt = false := by simpa using ht
    subst ht2
    exact wpAny_pure (q _ _ ((x1.trans x2).trans x3))

theorem se_not (H : SE prog w ad base n) {e : Expr} (he : ev (n + 1) (.not (trE k sc e)) ρ σ = some (v, σ')) (F : Fm ad base sc ρ env φ s.heap) (I : Inv prog w ad base σ φ s.heap) (HA : AOk (n + 1) A)
    (q : Ret prog w ad base φ s σ' v Q) : wpAny (model prog w) A (eval (.UnaryOp .Not e pos) env) Q E s := by
  simp only [ev, one_some, Option.map_eq_some_iff] at he
  obtain ⟨⟨a, σ1⟩, h1, t, h2, h3⟩ := he
  cases h3
  refine wpAny_UnaryOp (H h1 F I (HA.less (Nat.le_succ n)) fun val s1 φ1 x1 r1 => ?_)
  unfold unaryOp
  refine wpAny_holding ?_
  exact wpAny_bind (truthy_sound r1 h2 (wpAny_pure (q _ _ _ x1 (.bool _))))

theorem se_neg (H : SE prog w ad base n) {e : Expr} (he : ev (n + 1) (.neg (trE k sc e)) ρ σ = some (v, σ')) (F : Fm ad base sc ρ env φ s.heap) (I : Inv prog w ad base σ φ s.heap) (HA : AOk (n + 1) A)
    (q : Ret prog w ad base φ s σ' v Q) : wpAny (model prog w) A (eval (.UnaryOp .USub e pos) env) Q E s := by
  simp only [ev, one_some] at he
  obtain ⟨⟨a, σ1⟩, h1, h3⟩ := he
  cases a with
  | int i =>
    cases h3
    refine wpAny_UnaryOp (H h1 F I (HA.less (Nat.le_succ n)) fun val s1 φ1 x1 r1 => ?_)
    cases r1
    exact neg_int ((q.after x1).same x1.inv (.int _ _))
  | _ => simp at h3

theorem se_ite (H : SE prog w ad base n) (HT : ST prog w ad base n) {t b o : Expr} (he : ev (n + 1) (.ite (trE k sc t) (trE k sc b) (trE k sc o)) ρ σ = some (v, σ')) (F : Fm ad base sc ρ env φ s.heap) (I : Inv prog w ad base σ φ s.heap) (HA : AOk (n + 1) A)
    (q : Ret prog w ad base φ s σ' v Q) : wpAny (model prog w) A (eval (.IfExp t b o pos) env) Q E s := by
  have HA' := HA.less (Nat.le_succ n)
  simp only [ev, one_some] at he
  obtain ⟨⟨a, σ1⟩, h1, t', h2, h3⟩ := he
  refine wpAny_IfExp (HT h1 h2 F I HA' fun s1 φ1 x1 => ?_)
  split at h3
  · rename_i hb; rw [if_pos hb]; exact H h3 (F.to x1) x1.inv HA' (q.after x1)
  · rename_i hb; rw [if_neg hb]; exact H h3 (F.to x1) x1.inv HA' (q.after x1)

theorem se_and (H : SE prog w ad base n) : ∀ {es : List Expr} {σ : Store} {φ : List Addr} {s : Shared}, evAnd (fun e σ => ev n e ρ σ) (es.map (trE k sc)) σ = some (v, σ') → Fm ad base sc ρ env φ s.heap → Inv prog w ad base σ φ s.heap → AOk n A →
    Ret prog w ad base φ s σ' v Q → wpAny (model prog w) A (boolOp pos .And (evalEach es env)) Q E s
  | [], σ, φ, s, he, F, I, HA, q => by simp [evAnd] at he
  | [e], σ, φ, s, he, F, I, HA, q => by
    simp only [List.map_cons, List.map_nil, evAnd] at he
    exact H he F I HA q
  | e :: e2 :: r, σ, φ, s, he, F, I, HA, q => by
    simp only [List.map_cons, evAnd] at he
    split at he
    · rename_i a σ1 h1
      show wpAny _ A (do
        let v ← eval e env
        standAt pos
        let t ← holding [v] (PySem.truthy v)
        match BoolOp.And, t with
        | .And, false | .Or, true => pure v
        | _, _ => boolOp pos .And (evalEach (e2 :: r) env)) Q E s
      split at he
      · rename_i ht
        refine wpAny_bind (H h1 F I HA fun val s1 φ1 x1 r1 => wpAny_bind (wpAny_standAt (wpAny_bind (wpAny_holding (truthy_sound r1 ht ?_)))))
        exact se_and H (es := e2 :: r) he (F.to x1) x1.inv HA (q.after x1)
      · rename_i ht
        cases he
        refine wpAny_bind (H h1 F I HA fun val s1 φ1 x1 r1 => wpAny_bind (wpAny_standAt (wpAny_bind (wpAny_holding (truthy_sound r1 ht ?_)))))
        exact wpAny_pure (q _ _ _ x1 r1)
      · cases he
    · cases he

theorem se_or (H : SE prog w ad base n) : ∀ {es : List Expr} {σ : Store} {φ : List Addr} {s : Shared}, evOr (fun e σ => ev n e ρ σ) (es.map (trE k sc)) σ = some (v, σ') → Fm ad base sc ρ env φ s.heap → Inv prog w ad base σ φ s.heap → AOk n A →
    Ret prog w ad base φ s σ' v Q → wpAny (model prog w) A (boolOp pos .Or (evalEach es env)) Q E s
  | [], σ, φ, s, he, F, I, HA, q => by simp [evOr] at he
  | [e], σ, φ, s, he, F, I, HA, q => by
    simp only [List.map_cons, List.map_nil, evOr] at he
    exact H he F I HA q
  | e :: e2 :: r, σ, φ, s, he, F, I, HA, q => by
    simp only [List.map_cons, evOr] at he
    split at he
    · rename_i a σ1 h1
      show wpAny _ A (do
        let v ← eval e env
        standAt pos
        let t ← holding [v] (PySem.truthy v)
        match BoolOp.Or, t with
        | .And, false | .Or, true => pure v
        | _, _ => boolOp pos .Or (evalEach (e2 :: r) env)) Q E s
      split at he
      · rename_i ht
        refine wpAny_bind (H h1 F I HA fun val s1 φ1 x1 r1 => wpAny_bind (wpAny_standAt (wpAny_bind (wpAny_holding (truthy_sound r1 ht ?_)))))
        exact se_or H (es := e2 :: r) he (F.to x1) x1.inv HA (q.after x1)
      · rename_i ht
        cases he
        refine wpAny_bind (H h1 F I HA fun val s1 φ1 x1 r1 => wpAny_bind (wpAny_standAt (wpAny_bind (wpAny_holding (truthy_sound r1 ht ?_)))))
        exact wpAny_pure (q _ _ _ x1 r1)
      · cases he
    · cases he

theorem st_and (HT : ST prog w ad base n) {t : Bool} {Q : Bool → Shared → Prop} : ∀ {es : List Expr} {σ : Store} {φ : List Addr} {s : Shared}, evAnd (fun e σ => ev n e ρ σ) (es.map (trE k sc)) σ = some (v, σ') → truthy v = some t → Fm ad base sc ρ env φ s.heap → Inv prog w ad base σ φ s.heap → AOk n A →
    (∀ s' φ', To prog w ad base φ s σ' φ' s' → Q t s') → wpAny (model prog w) A (allTrue .And es env) Q E s
  | [], σ, φ, s, he, ht, F, I, HA, q => by simp [evAnd] at he
  | [e], σ, φ, s, he, ht, F, I, HA, q => by
    simp only [List.map_cons, List.map_nil, evAnd] at he
    refine wpAny_allTrue_And_cons (HT he ht F I HA fun s1 φ1 x1 => ?_)
    cases t with
    | true => exact wpAny_allTrue_And_nil (q _ _ x1)
    | false => exact q _ _ x1
  | e :: e2 :: r, σ, φ, s, he, ht, F, I, HA, q => by
    simp only [List.map_cons, evAnd] at he
    split at he
    · rename_i a σ1 h1
      split at he
      · rename_i h2
        refine wpAny_allTrue_And_cons (HT h1 h2 F I HA fun s1 φ1 x1 => ?_)
        exact st_and HT (es := e2 :: r) he ht (F.to x1) x1.inv HA fun s2 φ2 x2 => q _ _ (x1.trans x2)
      · rename_i h2
        cases he
        rw [h2] at ht; cases ht
        exact wpAny_allTrue_And_cons (HT h1 h2 F I HA fun s1 φ1 x1 => q _ _ x1)
      · cases he
    · cases he

theorem st_or (HT : ST prog w ad base n) {t : Bool} {Q : Bool → Shared → Prop} : ∀ {es : List Expr} {σ : Store} {φ : List Addr} {s : Shared}, evOr (fun e σ => ev n e ρ σ) (es.map (trE k sc)) σ = some (v, σ') → truthy v = some t → Fm ad base sc ρ env φ s.heap → Inv prog w ad base σ φ s.heap → AOk n A →
    (∀ s' φ', To prog w ad base φ s σ' φ' s' → Q t s') → wpAny (model prog w) A (allTrue .Or es env) Q E s
  | [], σ, φ, s, he, ht, F, I, HA, q => by simp [evOr] at he
  | [e], σ, φ, s, he, ht, F, I, HA, q => by
    simp only [List.map_cons, List.map_nil, evOr] at he
    refine wpAny_allTrue_Or_cons (HT he ht F I HA fun s1 φ1 x1 => ?_)
    cases t with
    | true => exact q _ _ x1
    | false => exact wpAny_allTrue_Or_nil (q _ _ x1)
  | e :: e2 :: r, σ, φ, s, he, ht, F, I, HA, q => by
    simp only [List.map_cons, evOr] at he
    split at he
    · rename_i a σ1 h1
      split at he
      · rename_i h2
        refine wpAny_allTrue_Or_cons (HT h1 h2 F I HA fun s1 φ1 x1 => ?_)
        exact st_or HT (es := e2 :: r) he ht (F.to x1) x1.inv HA fun s2 φ2 x2 => q _ _ (x1.trans x2)
      · rename_i h2
        cases he
        rw [h2] at ht; cases ht
        exact wpAny_allTrue_Or_cons (HT h1 h2 F I HA fun s1 φ1 x1 => q _ _ x1)
      · cases he
    · cases he
end
end Ab

end
section
set_option maxRecDepth 100000
namespace Ab
open PySem PySem.W PySem.Calls PyProof.Rows PySem.Spec

section
variable {prog : Program} {w : World} {ad : Ads} {base : Heap} {K : Frag} {mg mb : Str → Option Value} {σ σ' : Store} {φ φ' : List Addr} {s s' : Shared} {A : Around} {E : Value → Shared → Prop} {Q : Value → Shared → Prop}
  {n k : Nat} {sc : Scope} {ρ : Loc} {env : Env} {v : V} {pos : Pos}

theorem evs_length {f : PE → Store → Option (V × Store)} : ∀ {es : List PE} {σ : Store} {vs : List V} {σ' : Store}, evs f es σ = some (vs, σ') → vs.length = es.length
  | [], σ, vs, σ', h => by simp only [evs] at h; cases h; rfl
  | e :: r, σ, vs, σ', h => by
    simp only [evs] at h
    split at h
    · split at h
      · rename_i h2; cases h; simp [evs_length h2]
      · cases h
    · cases h

theorem le30 {n : Nat} (h : n ≤ 30) : n ≤ sizeLine := by have : sizeLine = 2 ^ 24 := rfl; omega

theorem se_list (H : SE prog w ad base n) {es : List Expr} (hs : es.any isStarE = false) (hl : es.length ≤ 30) (he : ev (n + 1) (.list (es.map (trE k sc))) ρ σ = some (v, σ')) (F : Fm ad base sc ρ env φ s.heap) (I : Inv prog w ad base σ φ s.heap) (HA : AOk (n + 1) A)
    (q : Ret prog w ad base φ s σ' v Q) : wpAny (model prog w) A (eval (.List es pos) env) Q E s := by
  simp only [ev, one_some] at he
  obtain ⟨⟨vs, σ1⟩, h1, h3⟩ := he
  cases h3
  refine wpAny_List (ses H h1 hs F I (HA.less (Nat.le_succ n)) fun vals s1 φ1 x1 r1 => ⟨?_, ?_⟩)
  · have h2 := evs_length h1
    rw [r1.length, h2, List.length_map]; exact le30 hl
  · exact (q.after x1).newList (tk := s1.toks) x1.inv r1

theorem se_tup (H : SE prog w ad base n) {es : List Expr} {x1 : Nat} (hs : es.any isStarE = false) (hl : es.length ≤ 30) (he : ev (n + 1) (.tup (es.map (trE k sc))) ρ σ = some (v, σ')) (F : Fm ad base sc ρ env φ s.heap) (I : Inv prog w ad base σ φ s.heap) (HA : AOk (n + 1) A)
    (q : Ret prog w ad base φ s σ' v Q) : wpAny (model prog w) A (eval (.Tuple es x1 pos) env) Q E s := by
  simp only [ev, one_some] at he
  obtain ⟨⟨vs, σ1⟩, h1, h3⟩ := he
  cases h3
  refine wpAny_Tuple (ses H h1 hs F I (HA.less (Nat.le_succ n)) fun vals s1 φ1 x1 r1 => ⟨?_, ?_⟩)
  · have h2 := evs_length h1
    rw [r1.length, h2, List.length_map]; exact le30 hl
  · exact (q.after x1).newTup (tk := s1.toks) x1.inv r1

theorem skv (H : SE prog w ad base n) : ∀ {ks : List (Option Expr)} {vs : List Expr} {as bs : List V} {σ : Store} {φ : List Addr} {s : Shared} {P : List (Value × Value) → Shared → Prop}, ks.all (·.isSome) = true →
    evKV (fun e σ => ev n e ρ σ) (ks.map fun x => match x with | some x => trE k sc x | none => .dead) (vs.map (trE k sc)) σ = some (as, bs, σ') → Fm ad base sc ρ env φ s.heap → Inv prog w ad base σ φ s.heap → AOk n A →
    (∀ kl vl s' φ', To prog w ad base φ s σ' φ' s' → Reps ad φ' s'.heap kl as → Reps ad φ' s'.heap vl bs → P (kl.zip vl) s') → wpAny (model prog w) A (evalPairs (pairTrees ks vs env pos)) P E s
  | [], [], as, bs, σ, φ, s, P, _, he, F, I, HA, q => by
    simp only [List.map_nil, evKV] at he
    cases he
    exact evalPairs_nil (q [] [] _ _ (To.refl I) .nil .nil)
  | none :: _, _, as, bs, σ, φ, s, P, hs, he, F, I, HA, q => by simp at hs
  | some a :: ks, b :: vs, as, bs, σ, φ, s, P, hs, he, F, I, HA, q => by
    simp only [List.all_cons, Option.isSome_some, Bool.true_and] at hs
    simp only [List.map_cons, evKV] at he
    split at he
    · rename_i v1 σ1 h1
      split at he
      · rename_i v2 σ2 h2
        split at he
        · rename_i as1 bs1 σ3 h3
          cases he
          refine evalPairs_cons (H h1 F I HA fun val s1 φ1 x1 r1 => wpAny_bind (H h2 (F.to x1) x1.inv HA fun val2 s2 φ2 x2 r2 => wpAny_bind (wpAny_standAt (wpAny_pure ?_))))
          refine skv H hs h3 (F.to (x1.trans x2)) x2.inv HA fun kl vl s3 φ3 x3 r3 r4 => ?_
          exact q (val :: kl) (val2 :: vl) _ _ ((x1.trans x2).trans x3) (.cons (x3.rep (x2.rep r1)) r3) (.cons (x3.rep r2) r4)
        · cases he
      · cases he
    · cases he
  | [], _ :: _, as, bs, σ, φ, s, P, _, he, F, I, HA, q => by simp [evKV] at he
  | some a :: ks, [], as, bs, σ, φ, s, P, _, he, F, I, HA, q => by simp [evKV] at he

theorem se_dict (H : SE prog w ad base n) {ks : List (Option Expr)} {vs : List Expr} (hk : ks.all (·.isSome) = true) (hl : ks.length = vs.length) (h15 : ks.length ≤ 15)
    (he : ev (n + 1) (.dict (ks.map fun x => match x with | some x => trE k sc x | none => .dead) (vs.map (trE k sc))) ρ σ = some (v, σ')) (F : Fm ad base sc ρ env φ s.heap) (I : Inv prog w ad base σ φ s.heap) (HA : AOk (n + 1) A)
    (q : Ret prog w ad base φ s σ' v Q) : wpAny (model prog w) A (eval (.Dict ks vs pos) env) Q E s := by
  simp only [ev, one_some, Option.map_eq_some_iff] at he
  obtain ⟨⟨as, bs, σ1⟩, h1, c, h2, h3⟩ := he
  cases h3
  have hn := get_size_none s.heap
  have x0 : To prog w ad base φ s σ φ { s with heap := s.heap.push { cls := .type "dict", data := .dict #[] } } := To.kept (tk := s.toks) I fun a o e => Heap.get?_push_of_some _ e
  by_cases h0 : ks = []
  · subst h0
    have : vs = [] := by cases vs with | nil => rfl | cons _ _ => simp at hl
    subst this
    simp only [List.map_nil, evKV] at h1
    cases h1
    cases h2
    refine wpAny_Dict_empty ?_
    refine q _ _ (φ ++ [s.heap.objs.size]) (To.add (tk := s.toks) I hn (fun a o e => Heap.get?_push_of_some _ e) ?_) (.ref (by rw [← I.len]; simp))
    exact ⟨[], Heap.DictOf.new _, rfl, .nil⟩
  · refine wpAny_Dict_any hk hl h0 h15 (skv H hk h1 (F.to x0) x0.inv (HA.less (Nat.le_succ n)) fun kl vl s1 φ1 x1 r1 r2 => ?_)
    have hdφ : s.heap.objs.size ∉ φ := (I.new hn).2
    have hd1 : s1.heap.get? s.heap.objs.size = some { cls := .type "dict", data := .dict #[] } := x1.kep hdφ (Heap.get?_push_size _ rfl)
    have hdφ1 : s.heap.objs.size ∉ φ1 := x1.out (Heap.get?_push_size s.heap (o := { cls := .type "dict", data := .dict #[] }) rfl) hdφ
    refine mkDict_sound r1 r2 h2 hd1 fun h' tk hk' hc => ?_
    have X := ToX.late (tk := tk) I (x0.trans x1) hn hd1 (by simp) hdφ1 (soft_dict rfl) hk' (c := c) (hc.mono (fun a o _ e => e) (List.prefix_append _ _) fun o e => e)
    exact q _ _ _ X (.ref (by rw [← x1.inv.len]; simp))

theorem se_subscript {ve ie : Expr} (hsl : ∀ l u st p, ie ≠ .Slice l u st p) {P : Value → Shared → Prop}
    (h : wpAny (model prog w) A (eval ve env) (fun o s₁ => wpAny (model prog w) A (eval ie env) (fun i s₂ => Sub prog w A E P o i s₂) E s₁) E s) : wpAny (model prog w) A (eval (.Subscript ve ie pos) env) P E s := by
  rw [arm_eval_Subscript]
  refine wpAny_bind (wpAny_mono h (fun o s₁ h₁ => wpAny_bind (wpAny_holding (wpAny_mono h₁ (fun i s₂ h₂ => wpAny_bind (wpAny_standAt ?_)) fun _ _ x => x))) fun _ _ x => x)
  obtain ⟨T, id, hT, hl, hg⟩ := h₂
  refine wpAny_bind ?_
  rw [getitemInPython_of_ne hT.not_modules]
  refine wpAny_bind (wpAny_specialOf hT hl (wpAny_pure (wpAny_bind ?_)))
  have e : subscripted ie false o i = operate [o, i] (getItem o i) := by
    unfold subscripted
    cases ie <;> first | rfl | exact absurd rfl (hsl _ _ _ _)
  rw [e]
  exact wpAny_operating (wpAny_mono hg (fun r s₃ h₃ => wpAny_bind (wpAny_letTemporaryGo (wpAny_pure h₃))) fun _ _ x => x)

theorem se_subslice {ve : Expr} {l u : Option Expr} {p : Pos} {P : Value → Shared → Prop}
    (h : wpAny (model prog w) A (eval ve env) (fun o s₁ => wpAny (model prog w) A (eval (.Slice l u none p) env) (fun i s₂ => Sub prog w A E P o i s₂) E s₁) E s) : wpAny (model prog w) A (eval (.Subscript ve (.Slice l u none p) pos) env) P E s := by
  rw [arm_eval_Subscript]
  refine wpAny_bind (wpAny_mono h (fun o s₁ h₁ => wpAny_bind (wpAny_holding (wpAny_mono h₁ (fun i s₂ h₂ => wpAny_bind (wpAny_standAt ?_)) fun _ _ x => x))) fun _ _ x => x)
  obtain ⟨T, id, hT, hl, hg⟩ := h₂
  refine wpAny_bind ?_
  rw [getitemInPython_of_ne hT.not_modules]
  refine wpAny_bind (wpAny_specialOf hT hl (wpAny_pure (wpAny_bind ?_)))
  show wpAny _ _ (operate [i, o] (getItem o i)) _ _ _
  exact wpAny_operating (wpAny_mono hg (fun r s₃ h₃ => wpAny_bind (wpAny_letTemporaryGo (wpAny_pure h₃))) fun _ _ x => x)

theorem se_sub (T : Text prog w ad base K mg mb) (H : SE prog w ad base n) {ve ie : Expr} (hsl : ∀ l u st p, ie ≠ .Slice l u st p) (he : ev (n + 1) (.sub (trE k sc ve) (trE k sc ie)) ρ σ = some (v, σ')) (F : Fm ad base sc ρ env φ s.heap) (I : Inv prog w ad base σ φ s.heap) (HA : AOk (n + 1) A)
    (q : Ret prog w ad base φ s σ' v Q) : wpAny (model prog w) A (eval (.Subscript ve ie pos) env) Q E s := by
  have HA' := HA.less (Nat.le_succ n)
  simp only [ev, one_some, Option.map_eq_some_iff] at he
  obtain ⟨⟨a, σ1⟩, h1, ⟨b, σ2⟩, h2, c, h3, h4⟩ := he
  cases h4
  refine se_subscript hsl (H h1 F I HA' fun val s1 φ1 x1 r1 => H h2 (F.to x1) x1.inv HA' fun val2 s2 φ2 x2 r2 => ?_)
  exact subOp_sound T.told x2.inv (x2.rep r1) r2 h3 (q.after (x1.trans x2))

theorem se_from (H : SE prog w ad base n) {ve ae : Expr} {p : Pos} (he : ev (n + 1) (.from_ (trE k sc ve) (trE k sc ae)) ρ σ = some (v, σ')) (F : Fm ad base sc ρ env φ s.heap) (I : Inv prog w ad base σ φ s.heap) (HA : AOk (n + 1) A)
    (q : Ret prog w ad base φ s σ' v Q) : wpAny (model prog w) A (eval (.Subscript ve (.Slice (some ae) none none p) pos) env) Q E s := by
  have HA' := HA.less (Nat.le_succ n)
  simp only [ev, one_some, Option.map_eq_some_iff] at he
  obtain ⟨⟨a, σ1⟩, h1, ⟨b, σ2⟩, h2, c, h3, h4⟩ := he
  cases h4
  refine se_subslice (H h1 F I HA' fun val s1 φ1 x1 r1 => wpAny_Slice (H h2 (F.to x1) x1.inv HA' fun val2 s2 φ2 x2 r2 => ?_))
  refine wpAny_pure (wpAny_pure ?_)
  have x3 : To prog w ad base φ2 s2 σ2 φ2 { s2 with heap := s2.heap.push { cls := .type "slice", data := .fields #[val2, .none, .none] } } := To.kept (tk := s2.toks) x2.inv fun a o e => Heap.get?_push_of_some _ e
  exact fromOp_sound x3.inv (x3.rep (x2.rep r1)) (x3.rep r2) ⟨_, Heap.get?_push_size _ rfl, rfl, rfl⟩ h3 (q.after ((x1.trans x2).trans x3))

theorem se_upto (T : Text prog w ad base K mg mb) (H : SE prog w ad base n) {ve be : Expr} {p : Pos} (he : ev (n + 1) (.upto (trE k sc ve) (trE k sc be)) ρ σ = some (v, σ')) (F : Fm ad base sc ρ env φ s.heap) (I : Inv prog w ad base σ φ s.heap) (HA : AOk (n + 1) A)
    (q : Ret prog w ad base φ s σ' v Q) : wpAny (model prog w) A (eval (.Subscript ve (.Slice none (some be) none p) pos) env) Q E s := by
  have HA' := HA.less (Nat.le_succ n)
  simp only [ev, one_some] at he
  obtain ⟨⟨a, σ1⟩, h1, ⟨b, σ2⟩, h2, h3⟩ := he
  refine se_subslice (H h1 F I HA' fun val s1 φ1 x1 r1 => wpAny_Slice (wpAny_pure (H h2 (F.to x1) x1.inv HA' fun val2 s2 φ2 x2 r2 => wpAny_pure ?_)))
  have x3 : To prog w ad base φ2 s2 σ2 φ2 { s2 with heap := s2.heap.push { cls := .type "slice", data := .fields #[.none, val2, .none] } } := To.kept (tk := s2.toks) x2.inv fun a o e => Heap.get?_push_of_some _ e
  exact uptoOp_sound T.told x3.inv (x3.rep (x2.rep r1)) (x3.rep r2) ⟨_, Heap.get?_push_size _ rfl, rfl, rfl⟩ h3 (q.after ((x1.trans x2).trans x3))

theorem base_simple {o : Expr} {a : Str} (h : simpleBase o = true) {whole : Sem Value} : attributeBase o a env whole = whole := by
  cases o <;> first | rfl | cases h

theorem se_attr (T : Text prog w ad base K mg mb) (H : SE prog w ad base n) {o : Expr} {a : Str} (hb : simpleBase o = true) (ha : okAttr a = true) (he : ev (n + 1) (.attr (trE k sc o) (nm a)) ρ σ = some (v, σ')) (F : Fm ad base sc ρ env φ s.heap) (I : Inv prog w ad base σ φ s.heap) (HA : AOk (n + 1) A)
    (q : Ret prog w ad base φ s σ' v Q) : wpAny (model prog w) A (eval (.Attribute o a pos) env) Q E s := by
  simp only [ev, one_some, Option.map_eq_some_iff] at he
  obtain ⟨⟨x, σ1⟩, h1, c, h3, h4⟩ := he
  cases h4
  rw [arm_eval_Attribute, base_simple hb]
  refine wpAny_bind (H h1 F I (HA.less (Nat.le_succ n)) fun val s1 φ1 x1 r1 => wpAny_bind (wpAny_standAt (wpAny_bind (wpAny_holding ?_))))
  exact attrOp_sound T x1.inv ha r1 h3 fun val2 s2 φ2 x2 r2 => wpAny_bind (wpAny_letTemporaryGo (wpAny_pure (q _ _ _ (x1.trans x2) r2)))
end
end Ab

end
section
set_option maxRecDepth 100000
namespace Ab
open PySem PySem.W PySem.Calls PyProof.Rows PySem.Spec

section
variable {prog : Program} {w : World} {ad : Ads} {base : Heap} {K : Frag} {mg mb : Str → Option Value} {σ σ' : Store} {φ φ' : List Addr} {s s' : Shared} {A : Around} {E : Value → Shared → Prop} {Q : Value → Shared → Prop}
  {n k : Nat} {sc : Scope} {ρ : Loc} {env : Env} {v : V} {pos : Pos}

theorem plain_trees : ∀ {es : List Expr}, es.any isStarE = false → (backTo pos (starEach es env)).any (·.1) = false
  | [], _ => rfl
  | e :: r, h => by
    simp only [List.any_cons, Bool.or_eq_false_iff] at h
    rw [star_cons h.1]
    show (false || (backTo pos (starEach r env)).any (·.1)) = false
    rw [plain_trees h.2]; rfl
theorem all_trees {es : List Expr} (h : es.any isStarE = false) : (backTo pos (starEach es env)).all (!·.1) = true := by
  have := plain_trees (pos := pos) (env := env) h
  rw [List.all_eq_true]
  intro x hx
  rw [List.any_eq_false] at this
  simpa using this x hx

theorem scall {f : Value} {first : List Value} {vs : List V} (X : K.In base) (hk : keepIn K f = true) (H : SE prog w ad base n) {args : List Expr} (hs : args.any isStarE = false) (he : evs (fun e σ => ev n e ρ σ) (args.map (trE k sc)) σ = some (vs, σ'))
    (F : Fm ad base sc ρ env φ s.heap) (I : Inv prog w ad base σ φ s.heap) (HA : AOk n A)
    (q : ∀ vals s' φ', To prog w ad base φ s σ' φ' s' → Reps ad φ' s'.heap vals vs → wpAny (model prog w) A (call f (first ++ vals)) Q E s') : wpAny (model prog w) A (callWith pos f first (backTo pos (starEach args env)) []) Q E s := by
  cases args with
  | nil =>
    simp only [List.map_nil, evs] at he
    cases he
    exact callWith_K0 (X.keeps I.stay) hk (q [] s φ (To.refl I) .nil)
  | cons e r =>
    have hs' := hs
    simp only [List.any_cons, Bool.or_eq_false_iff] at hs'
    refine callWith_K (X.keeps I.stay) hk (ses H he hs F I HA fun vals s1 φ1 x1 r1 => ⟨X.keeps x1.inv.stay, q vals s1 φ1 x1 r1⟩) (star_cons hs'.1) (plain_trees hs'.2)

theorem sbuilt {id : String} {vs : List V} (hv : vs ≠ []) (H : SE prog w ad base n) {args : List Expr} (hs : args.any isStarE = false) (he : evs (fun e σ => ev n e ρ σ) (args.map (trE k sc)) σ = some (vs, σ'))
    (F : Fm ad base sc ρ env φ s.heap) (I : Inv prog w ad base σ φ s.heap) (HA : AOk n A) :
    (∀ (q : ∀ vals s' φ', To prog w ad base φ s σ' φ' s' → Reps ad φ' s'.heap vals vs → wpAny (model prog w) A (call (.builtin id) vals) Q E s'), wpAny (model prog w) A (callWith pos (.builtin id) [] (backTo pos (starEach args env)) []) Q E s) ∧
    (∀ (q : ∀ vals s' φ', To prog w ad base φ s σ' φ' s' → Reps ad φ' s'.heap vals vs → wpAny (model prog w) A (call (.type id) vals) Q E s'), wpAny (model prog w) A (callWith pos (.type id) [] (backTo pos (starEach args env)) []) Q E s) := by
  cases args with
  | nil =>
    simp only [List.map_nil, evs] at he
    cases he
    exact absurd rfl hv
  | cons e r =>
    have hs' := hs
    simp only [List.any_cons, Bool.or_eq_false_iff] at hs'
    have hp := plain_trees (pos := pos) (env := env) hs
    have e1 : backTo pos (starEach (e :: r) env) = (false, eval e env) :: backTo pos (starEach r env) := by rw [star_cons hs'.1]; rfl
    refine ⟨fun q => ?_, fun q => ?_⟩
    · refine Calls.callWith_builtin hp ?_
      rw [e1]
      refine Calls.evalArgs_plain ?_
      rw [← e1]
      exact ses H he hs F I HA fun vals s1 φ1 x1 r1 => q vals s1 φ1 x1 r1
    · refine PySem.callWith_type hp ?_
      rw [e1]
      refine Calls.evalArgs_plain ?_
      rw [← e1]
      exact ses H he hs F I HA fun vals s1 φ1 x1 r1 => q vals s1 φ1 x1 r1

theorem se_bi (T : Text prog w ad base K mg mb) (H : SE prog w ad base n) {f : Str} {p : Pos} {args : List Expr} {b : Bi} (hg : sc.names.lookup f = some .globalImplicit) (hd : (f == ("__debug__" : Str)) = false) (hb : biOf f = some b) (hs : args.any isStarE = false)
    (he : ev (n + 1) (.bi b (args.map (trE k sc))) ρ σ = some (v, σ')) (F : Fm ad base sc ρ env φ s.heap) (I : Inv prog w ad base σ φ s.heap) (HA : AOk (n + 1) A)
    (q : Ret prog w ad base φ s σ' v Q) : wpAny (model prog w) A (eval (.Call (.Name f p) args [] pos) env) Q E s := by
  have HA' := HA.less (Nat.le_succ n)
  simp only [ev, one_some] at he
  obtain ⟨⟨vs, σ1⟩, h1, h2⟩ := he
  refine wpAny_Call_ofName (name_built T I F hg hd (T.gbi f b hb) ?_)
  have hv : vs ≠ [] := by
    intro e
    subst e
    cases b <;> exact nn h2
  have fin : ∀ vals s' φ', To prog w ad base φ s σ1 φ' s' → Reps ad φ' s'.heap vals vs → wpAny (model prog w) A (call b.val vals) Q E s' := fun vals s1 φ1 x1 r1 =>
    biOp_sound T.told HA.1 x1.inv r1 h2 (q.after x1)
  show wpAny _ _ (callWith pos b.val [] (backTo pos (starEach args env)) []) _ _ _
  cases b with
  | len => exact (sbuilt hv H hs h1 F I HA').1 fin
  | sum => exact (sbuilt hv H hs h1 F I HA').1 fin
  | sorted => exact (sbuilt hv H hs h1 F I HA').1 fin
  | tuple => exact (sbuilt hv H hs h1 F I HA').2 fin
  | list => exact (sbuilt hv H hs h1 F I HA').2 fin
  | range => exact (sbuilt hv H hs h1 F I HA').2 fin
  | int => exact (sbuilt hv H hs h1 F I HA').2 fin

theorem se_isi (T : Text prog w ad base K mg mb) (H : SE prog w ad base n) {p tp : Pos} {a : Expr} {tn : Str} {t : Ty} (hg : sc.names.lookup ("isinstance" : Str) = some .globalImplicit) (hg2 : sc.names.lookup tn = some .globalImplicit) (hd2 : (tn == ("__debug__" : Str)) = false) (ht : tyOf tn = some t) (hs : isStarE a = false)
    (he : ev (n + 1) (.isi (trE k sc a) t) ρ σ = some (v, σ')) (F : Fm ad base sc ρ env φ s.heap) (I : Inv prog w ad base σ φ s.heap) (HA : AOk (n + 1) A)
    (q : Ret prog w ad base φ s σ' v Q) : wpAny (model prog w) A (eval (.Call (.Name ("isinstance" : Str) p) [a, .Name tn tp] [] pos) env) Q E s := by
  have HA' := HA.less (Nat.le_succ n)
  simp only [ev, one_some, Option.map_eq_some_iff] at he
  obtain ⟨⟨x, σ1⟩, h1, b, h2, h3⟩ := he
  cases h3
  refine wpAny_Call_ofName (name_built T I F hg (by decide) T.gisi ?_)
  have e1 : backTo pos (starEach [a, .Name tn tp] env) = [(false, eval a env), (false, eval (.Name tn tp) env)] := by rw [star_cons hs]; rfl
  show wpAny _ _ (callWith pos (.builtin "isinstance") [] (backTo pos (starEach [a, .Name tn tp] env)) []) _ _ _
  rw [e1]
  refine Calls.callWith_builtin rfl (Calls.evalArgs_plain (Calls.spliced_cons (H h1 F I HA' fun val s1 φ1 x1 r1 => Calls.spliced_cons (name_built T x1.inv (F.to x1) hg2 hd2 (T.gty tn t ht) (Calls.spliced_nil ?_)))))
  exact isiOp_sound x1.inv r1 h2 (q.after x1)

theorem call_decl {i : Nat} {vs : List V} {r : V × Store} (h : callF n i vs σ = some r) : ∃ d, decl i = some d := by
  cases n with
  | zero => simp [callF] at h
  | succ n =>
    simp only [callF, one_some] at h
    obtain ⟨fn, h1, _⟩ := h
    unfold FT at h1
    cases e : decl i with
    | none => rw [e] at h1; cases h1
    | some d => exact ⟨d, rfl⟩

theorem se_call (T : Text prog w ad base K mg mb) (H : SE prog w ad base n) (HC : SC prog w ad base n) {f : Str} {p : Pos} {args : List Expr} {i : Nat} (hg : sc.names.lookup f = some .globalImplicit) (hd : (f == ("__debug__" : Str)) = false) (hi : fnOf? f = some i) (hs : args.any isStarE = false)
    (he : ev (n + 1) (.call i (args.map (trE k sc))) ρ σ = some (v, σ')) (F : Fm ad base sc ρ env φ s.heap) (I : Inv prog w ad base σ φ s.heap) (HA : AOk (n + 1) A)
    (q : Ret prog w ad base φ s σ' v Q) : wpAny (model prog w) A (eval (.Call (.Name f p) args [] pos) env) Q E s := by
  have HA' := HA.less (Nat.le_succ n)
  simp only [ev, one_some] at he
  obtain ⟨⟨vs, σ1⟩, h1, h2⟩ := he
  obtain ⟨d, hdcl⟩ := call_decl h2
  refine wpAny_Call_ofName (name_glob T I F hg hd (T.gfn f i hi) ?_)
  show wpAny _ _ (callWith pos (.ref (ad.fn i)) [] (backTo pos (starEach args env)) []) _ _ _
  refine scall T.frag (T.keepf i d hdcl) H hs h1 F I HA' fun vals s1 φ1 x1 r1 => wpAny_call ?_
  exact HC h2 x1.inv r1 HA' fun s2 φ2 val x2 r2 => q _ _ _ (x1.trans x2) r2

theorem se_new (T : Text prog w ad base K mg mb) (H : SE prog w ad base n) (HC : SC prog w ad base n) {f : Str} {p : Pos} {args : List Expr} {c : Nat} (hg : sc.names.lookup f = some .globalImplicit) (hd : (f == ("__debug__" : Str)) = false) (hc : clsOf? f = some c) (hs : args.any isStarE = false)
    (he : ev (n + 1) (.new c (args.map (trE k sc))) ρ σ = some (v, σ')) (F : Fm ad base sc ρ env φ s.heap) (I : Inv prog w ad base σ φ s.heap) (HA : AOk (n + 1) A)
    (q : Ret prog w ad base φ s σ' v Q) : wpAny (model prog w) A (eval (.Call (.Name f p) args [] pos) env) Q E s := by
  have HA' := HA.less (Nat.le_succ n)
  simp only [ev, one_some] at he
  obtain ⟨⟨vs, σ1⟩, h1, fi, h2, ⟨r, σ2⟩, h3, h4⟩ := he
  have hc2 : c < 2 := (List.getElem?_eq_some_iff.mp h2).1
  have C := T.cls c hc2
  obtain ⟨hin, hfn⟩ := C.init fi h2
  refine wpAny_Call_ofName (name_glob T I F hg hd (T.gcls f c hc) ?_)
  show wpAny _ _ (callWith pos (.ref (ad.cls c)) [] (backTo pos (starEach args env)) []) _ _ _
  refine scall T.frag (T.keepc c hc2) H hs h1 F I HA' fun vals s1 φ1 x1 r1 => wpAny_call ?_
  have hX : K.In s1.heap := T.frag.keeps x1.inv.stay
  obtain ⟨hh, g, dr, t, os⟩ := s1
  refine make_core (makes_of hX C.makes) (looks_findIn hX hin) (fun self => bind_fn hX self hfn) (.inl rfl) ?_
  have hk2 : ∀ a o, hh.get? a = some o → ((hh.push emptyDict).push (instObj (ad.cls c) hh.objs.size)).get? a = some o := fun a o e => Heap.get?_push_of_some _ (Heap.get?_push_of_some _ e)
  have hdx : ((hh.push emptyDict).push (instObj (ad.cls c) hh.objs.size)).get? hh.objs.size = some emptyDict := Heap.get?_push_of_some _ (Heap.get?_push_size _ rfl)
  have hsz : (hh.push emptyDict).objs.size = hh.objs.size + 1 := Heap.size_push ..
  have hx : ((hh.push emptyDict).push (instObj (ad.cls c) hh.objs.size)).get? (hh.objs.size + 1) = some (instObj (ad.cls c) hh.objs.size) := by
    rw [← hsz]; exact Heap.get?_push_size _ rfl
  have X := To.add (s := ⟨hh, g, dr, t, os⟩) (tk := t) (c := .inst []) x1.inv (get_size_none hh) hk2 ⟨[], 0, hdx, trivial⟩
  have rs : Rep ad (φ1 ++ [hh.objs.size]) ((hh.push emptyDict).push (instObj (ad.cls c) hh.objs.size)) (.ref (hh.objs.size + 1)) (.obj σ1.length c) := .obj hx (by rw [← x1.inv.len]; simp)
  have HA2 : AOk n (A.under (.builtin "type.__call__" ⟨.ref (ad.cls c) :: vals, []⟩)) := by
    obtain ⟨a1, a2, a3⟩ := HA
    have d1 := depth_under_make A (ad.cls c) vals
    have d2 := units_under_make A (ad.cls c) vals
    refine ⟨a1, ?_, ?_⟩ <;> omega
  refine HC h3 X.inv (.cons rs (X.reps r1)) HA2 fun s2 φ2 val x2 r2 => ?_
  cases r with
  | none =>
    cases h4
    cases r2
    exact ⟨rfl, q _ _ _ ((x1.trans X).trans x2) (x2.rep rs)⟩
  | _ => simp at h4
end
end Ab

end
section
set_option maxRecDepth 100000
namespace Ab
open PySem PySem.W PySem.Calls PyProof.Rows PySem.Spec

theorem Reps.dropLast {ad : Ads} {φ : List Addr} {h : Heap} {vs : List Value} {as : List V} (r : Reps ad φ h vs as) : Reps ad φ h vs.dropLast as.dropLast := by
  rw [List.dropLast_eq_take, List.dropLast_eq_take, r.length]
  exact r.take _
theorem erase_last (items : Array Value) : (items.eraseIdxIfInBounds (items.size - 1)).toList = items.toList.dropLast := by
  unfold Array.eraseIdxIfInBounds
  split
  · rw [Array.toList_eraseIdx, List.dropLast_eq_take]
    have h : items.toList.length = items.size := by simp
    rw [List.eraseIdx_eq_take_drop_succ]
    have : items.toList.drop (items.size - 1 + 1) = [] := List.drop_eq_nil_of_le (by omega)
    rw [this, h, List.append_nil]
  · have h0 : items.size = 0 := by omega
    have : items = #[] := Array.eq_empty_of_size_eq_zero h0
    subst this; rfl

theorem nm_is {x y : Str} (hx : known x = true) (hy : known y = true) (h : nm x = nm y) : x = y := nm_inj (known_mem hx) (known_mem hy) h

section
variable {prog : Program} {w : World} {ad : Ads} {base : Heap} {K : Frag} {mg mb : Str → Option Value} {σ σ' : Store} {φ φ' : List Addr} {s s' : Shared} {A : Around} {E : Value → Shared → Prop} {Q : Value → Shared → Prop}
  {n k : Nat} {sc : Scope} {ρ : Loc} {env : Env} {v : V} {pos : Pos}

/-- a list's own method -/
theorem list_meth (H : SE prog w ad base n) {name : Str} (hn : known name = true) {args : List Expr} {vs : List V} {σ2 : Store} {i : Nat} {l : Addr} {ws : List V} (hs : args.any isStarE = false)
    (h1 : evs (fun e σ => ev n e ρ σ) (args.map (trE k sc)) σ = some (vs, σ2)) (h2 : listOp σ2 i ws (nm name) vs = some (v, σ')) (hσ : σ2[i]? = some (.list ws)) (hl : φ[i]? = some l) {it0 : Array Value} {n0 : Nat} (hl0 : IsL s.heap l it0 n0)
    (F : Fm ad base sc ρ env φ s.heap) (I : Inv prog w ad base σ φ s.heap) (HA : AOk n A) (q : Ret prog w ad base φ s σ' v Q) :
    ∃ id, Slot "list" name id ∧ typeOf (.builtin id) = pure (.type "method_descriptor") ∧ wpAny (model prog w) A (callWith pos (.builtin id) [.ref l] (backTo pos (starEach args env)) []) Q E s := by
  have b1 : big = 4096 := rfl
  obtain ⟨hb, sh⟩ := listOp_sh h2
  generalize hm : nm name = m0 at sh
  cases sh with
  | app x =>
    have hname : name = ("append" : Str) := nm_is hn (by decide +kernel) (hm.trans (by decide +kernel))
    subst hname
    obtain ⟨e, rfl, h3⟩ := evs_one h1
    simp only [List.any_cons, List.any_nil, Bool.or_false] at hs
    refine ⟨_, PySem.F.slot_list_append, PySem.F.type_list_append, ?_⟩
    rw [star_cons hs]
    refine P.append_list (x := eval e env) (H h3 F I HA fun val s1 φ1 x1 r1 => ?_)
    have hl1 := pre_get x1.pre hl
    obtain ⟨items, m, hL, rr⟩ := x1.inv.cell _ _ _ hσ hl1
    have hsz := rr.size
    refine ⟨items, m, le_line (by omega), hL, ?_⟩
    have hu : ∀ b o, b ≠ l → s1.heap.get? b = some o → (s1.heap.update l (Obj.mapSeq fun xs => xs.push val)).get? b = some o := fun b o hne eb => (Heap.get?_update_ne _ _ _ _ hne).trans eb
    have soft : ∀ b o, Rigid o → s1.heap.get? b = some o → (s1.heap.update l (Obj.mapSeq fun xs => xs.push val)).get? b = some o := fun b o ho eb => hu b o (fun z => by subst z; exact x1.inv.softAt hl1 eb ho) eb
    refine q _ _ _ (x1.trans (To.put x1.inv (tk := s1.toks) hl1 hu ⟨_, _, PySem.IsL.update hL _, ?_⟩)) .none
    rw [Array.toList_push]
    exact (rr.mono soft (List.prefix_refl _)).append (.one (r1.mono soft (List.prefix_refl _)))
  | pop x hx =>
    have hname : name = ("pop" : Str) := nm_is hn (by decide +kernel) (hm.trans (by decide +kernel))
    subst hname
    obtain ⟨rfl, rfl⟩ := evs_nil h1
    obtain ⟨items, m, hL, rr⟩ := I.cell _ _ _ hσ hl
    have hsz := rr.size
    rw [List.getLast?_eq_getElem?] at hx
    obtain ⟨y, hy, ry⟩ := rr.get hx
    refine ⟨_, PySem.F.slot_list_pop, PySem.F.type_list_pop, ?_⟩
    refine P.pop_list hL (by rw [hsz]; exact getElem_toList hy) ?_ (le_line (by omega))
    have hu : ∀ b o, b ≠ l → s.heap.get? b = some o → (s.heap.update l (Obj.mapSeq fun xs => xs.eraseIdxIfInBounds (items.size - 1))).get? b = some o := fun b o hne eb => (Heap.get?_update_ne _ _ _ _ hne).trans eb
    have soft : ∀ b o, Rigid o → s.heap.get? b = some o → (s.heap.update l (Obj.mapSeq fun xs => xs.eraseIdxIfInBounds (items.size - 1))).get? b = some o := fun b o ho eb => hu b o (fun z => by subst z; exact I.softAt hl eb ho) eb
    refine q _ _ _ (To.put I (tk := s.toks) hl hu ⟨_, _, PySem.IsL.update hL _, ?_⟩) (ry.mono soft (List.prefix_refl _))
    rw [erase_last]
    exact (rr.mono soft (List.prefix_refl _)).dropLast
  | ext us hb2 =>
    have hname : name = ("extend" : Str) := nm_is hn (by decide +kernel) (hm.trans (by decide +kernel))
    subst hname
    obtain ⟨e, rfl, h3⟩ := evs_one h1
    simp only [List.any_cons, List.any_nil, Bool.or_false] at hs
    refine ⟨_, PySem.F.slot_list_extend, PySem.F.type_list_extend, ?_⟩
    rw [star_cons hs]
    refine seqMethod1_meets (x := eval e env) PySem.F.slot_list_extend PySem.F.entry_list_extend (H h3 F I HA fun val s1 φ1 x1 r1 => ?_)
    have hl1 := pre_get x1.pre hl
    obtain ⟨items, m, hL, rr⟩ := x1.inv.cell _ _ _ hσ hl1
    have hsz := rr.size
    obtain ⟨tb, items2, n2, rfl, ht, r2⟩ := r1.inv
    have hsz2 := r2.size
    have hline : sizeLine = 2 ^ 24 := rfl
    refine ⟨⟨_, hL, rfl⟩, PySem.F.args_list_extend_2 _ _, _, AutoSeq1.list_extend_list_tuple_0 l items m tb items2 n2 ?_ (le_line (by omega)) (by omega), hL, ht, ?_⟩
    · intro hc
      simp only [Bool.and_eq_true, Builtin.List.listTooLong, decide_eq_true_eq] at hc
      omega
    have hu : ∀ b o, b ≠ l → s1.heap.get? b = some o → (s1.heap.update l (Obj.mapSeq fun xs => xs ++ items2)).get? b = some o := fun b o hne eb => (Heap.get?_update_ne _ _ _ _ hne).trans eb
    have soft : ∀ b o, Rigid o → s1.heap.get? b = some o → (s1.heap.update l (Obj.mapSeq fun xs => xs ++ items2)).get? b = some o := fun b o ho eb => hu b o (fun z => by subst z; exact x1.inv.softAt hl1 eb ho) eb
    refine q _ _ _ (x1.trans (To.put x1.inv (tk := s1.toks) hl1 hu ⟨_, _, PySem.IsL.update hL _, ?_⟩)) .none
    rw [Array.toList_append]
    exact (rr.mono soft (List.prefix_refl _)).append (r2.mono soft (List.prefix_refl _))
  | idx kk is hi hmem =>
    have hname : name = ("index" : Str) := nm_is hn (by decide +kernel) (hm.trans (by decide +kernel))
    subst hname
    obtain ⟨e, rfl, h3⟩ := evs_one h1
    simp only [List.any_cons, List.any_nil, Bool.or_false] at hs
    refine ⟨_, PySem.F.slot_list_index, PySem.F.type_list_index, ?_⟩
    rw [star_cons hs]
    refine P.index_list (x := eval e env) (H h3 F I HA fun val s1 φ1 x1 r1 => ?_)
    have hl1 := pre_get x1.pre hl
    obtain ⟨items, m, hL, rr⟩ := x1.inv.cell _ _ _ hσ hl1
    have hsz := rr.size
    obtain ⟨t, rfl⟩ := r1.inv
    have hI := reps_ints rr hi
    have hIl : items.size = is.length := by simpa using hI.length
    have hj : is.idxOf kk < is.length := List.idxOf_lt_length_of_mem hmem
    have at_ : ∀ j (hj : j < items.size), ∃ t, items[j] = .int (is.getD j 0) t := fun j hj => ints_at hI (by simp [hj])
    refine ⟨items, m, fun y => match y with | .int a _ => a == kk | _ => false, is.idxOf kk, by omega, hL, ?_, by omega, ?_, ?_, (q.after x1).same x1.inv (.int _ _)⟩
    · intro y hy
      obtain ⟨j, hj, rfl⟩ := Array.getElem_of_mem hy
      obtain ⟨t', e⟩ := at_ j hj
      rw [e]
      exact MeetsSeq.EqGives.int _ _ _ _
    · obtain ⟨t', e⟩ := at_ (is.idxOf kk) (by omega)
      rw [e]
      have : is.getD (is.idxOf kk) 0 = kk := by
        rw [List.getD_eq_getElem?_getD, List.getElem?_eq_getElem hj, Option.getD_some]
        exact List.getElem_idxOf hj
      show (is.getD (is.idxOf kk) 0 == kk) = true
      rw [this]; exact beq_self_eq_true _
    · intro j hj' hlt
      obtain ⟨t', e⟩ := at_ j hj'
      rw [e]
      have hj2 : j < is.length := by omega
      have h6 := List.not_of_lt_findIdx (p := (· == kk)) (xs := is) hlt
      have e2 : is.getD j 0 = is[j] := by rw [List.getD_eq_getElem?_getD, List.getElem?_eq_getElem hj2, Option.getD_some]
      show (is.getD j 0 == kk) = false
      rw [e2]
      simpa using h6
end
end Ab

end
section
set_option maxRecDepth 100000
namespace Ab
open PySem PySem.W PySem.Calls PyProof.Rows PySem.Spec

section
variable {prog : Program} {w : World} {ad : Ads} {base : Heap} {K : Frag} {mg mb : Str → Option Value} {σ σ' : Store} {φ φ' : List Addr} {s s' : Shared} {A : Around} {E : Value → Shared → Prop} {Q : Value → Shared → Prop}
  {n k : Nat} {sc : Scope} {ρ : Loc} {env : Env} {v : V} {pos : Pos}

theorem se_meth (T : Text prog w ad base K mg mb) (H : SE prog w ad base n) (HC : SC prog w ad base n) {o : Expr} {name : Str} {apos : Pos} {args : List Expr} (hb : simpleBase o = true) (hn : known name = true) (hline : (apos.endLine == pos.line) = true)
    (hs : args.any isStarE = false) (hlen : args.length < 29)
    (he : ev (n + 1) (.meth (trE k sc o) (nm name) (args.map (trE k sc))) ρ σ = some (v, σ')) (F : Fm ad base sc ρ env φ s.heap) (I : Inv prog w ad base σ φ s.heap) (HA : AOk (n + 1) A)
    (q : Ret prog w ad base φ s σ' v Q) : wpAny (model prog w) A (eval (.Call (.Attribute o name apos) args [] pos) env) Q E s := by
  have HA' := HA.less (Nat.le_succ n)
  simp only [ev, one_some] at he
  obtain ⟨⟨a, σ1⟩, h1, ⟨vs, σ2⟩, h2, h3⟩ := he
  rw [PySem.arm_eval_Call, base_simple hb]
  refine wpAny_bind (H h1 F I HA' fun val s1 φ1 x1 r1 => wpAny_bind (wpAny_standAt ?_))
  have hform : methodCallForm (args.length + ([] : List Keyword).length) (backTo pos (starEach args env)) (backToKw pos (keywordEach [] env)) = true := by
    unfold methodCallForm
    rw [all_trees hs]
    show (true && true && decide (args.length + 0 + 0 < 30)) = true
    simp; omega
  have hpos : methodCallPos true o env apos pos = pure pos := by unfold methodCallPos; simp [hline]
  unfold methodCall
  rw [hform]
  have x1' := x1
  cases a with
  | ref i =>
    simp only at h3
    split at h3
    · rename_i u ws e1 e2
      cases r1 with
      | ref hl =>
        rename_i l
        obtain ⟨items, m, hL, rr⟩ := x1.inv.cell _ _ _ e1 hl
        obtain ⟨id, slot, hty, hc⟩ := list_meth (pos := pos) H hn hs h2 h3 e2 hl hL (F.to x1) x1.inv HA' (q.after x1) (E := E)
        refine wpAny_bind (wpAny_holding (getMethod_builtin ⟨_, hL, rfl⟩ PySem.F.plainAttrs_list slot hty (fun a e => ?_) ?_))
        · cases e; exact ⟨_, hL, rfl⟩
        · exact wpAny_bind (wpAny_of_eq hpos hc)
    · cases h3
  | obj i c =>
    simp only at h3
    split at h3
    · rename_i fs e1
      split at h3
      · rename_i hc
        simp only [Bool.and_eq_true, Option.isNone_iff_eq_none, decide_eq_true_eq] at hc
        simp only [one_some] at h3
        obtain ⟨f, h4, h5⟩ := h3
        obtain ⟨d, hdcl⟩ := call_decl h5
        cases r1 with
        | obj g1 g2 =>
          rename_i x dx
          obtain ⟨es, kk, g4, r, J⟩ := inst_at x1.inv g1 g2 e1
          have C := T.cls c hc.2
          have X : K.In s1.heap := T.frag.keeps x1.inv.stay
          have hname := known_mem hn
          obtain ⟨m1, m2⟩ := C.meth name f hname h4
          have hsh : shadowIn (some (W.dictOf es kk)) name = some false := by
            show (lookIn name (W.dictOf es kk)).map (·.isSome) = some false
            rw [(ent_look (n := kk) hname r).2 hc.1]; rfl
          refine wpAny_bind (wpAny_holding (method_fn X J C.ga C.gb m1 m2 hsh ?_))
          refine wpAny_bind (wpAny_of_eq hpos ?_)
          refine scall T.frag (T.keepf f d hdcl) H hs h2 (F.to x1) x1.inv HA' fun vals s2 φ2 x2 r2 => wpAny_call ?_
          refine HC h5 x2.inv (.cons (x2.rep (.obj g1 g2)) r2) HA' fun s3 φ3 val3 x3 r3 => q _ _ _ ((x1.trans x2).trans x3) r3
      · cases h3
    · cases h3
  | _ => simp at h3
end
end Ab

end
section
set_option maxRecDepth 100000
namespace Ab
open PySem PySem.W PySem.Calls PyProof.Rows PySem.Spec

section
variable {prog : Program} {w : World} {ad : Ads} {base : Heap} {K : Frag} {mg mb : Str → Option Value} {σ σ' : Store} {φ φ' : List Addr} {s s' : Shared} {A : Around} {E : Value → Shared → Prop} {Q : Value → Shared → Prop}
  {n k : Nat} {sc : Scope} {ρ : Loc} {env : Env} {v : V} {pos : Pos} {X : List Addr}

/-- places that were not there do not matter -/
theorem To.close {σ1 σ2 : Store} {φ1 φ2 : List Addr} {s1 s2 : Shared} (x : To prog w ad base φ s σ1 φ1 s1) (y : ToX prog w ad base X φ1 s1 σ2 φ2 s2) (hX : ∀ a ∈ X, s.heap.get? a = none) : To prog w ad base φ s σ2 φ2 s2 where
  gens := y.gens.trans x.gens
  os := y.os.trans x.os
  keep := fun a o ha _ e => y.keep a o (x.out e ha) (fun hm => by rw [hX a hm] at e; cases e) (x.kep ha e)
  rigid := fun a o ho e => y.rigid a o ho (x.rigid a o ho e)
  pre := x.pre.trans y.pre
  new := fun a ha => by
    rcases y.new a ha with q | ⟨q, hx⟩
    · exact x.new a q
    · by_cases hm : a ∈ φ
      · exact .inl hm
      · refine .inr ⟨?_, by simp⟩
        cases e : s.heap.get? a with
        | none => rfl
        | some o => rw [x.kep hm e] at q; cases q
  inv := y.inv

theorem Fm.place (F : Fm ad base sc ρ env φ s.heap) {p : Addr} {h' : Heap} {o : Obj} (ho : s.heap.get? p = some o) (hs : ¬ Rigid o) (hl : env.locals ≠ p) (hc : ∀ y c, (y, c) ∈ env.cells → c ≠ p) (hk : ∀ a o, a ≠ p → s.heap.get? a = some o → h'.get? a = some o) :
    Fm ad base sc ρ env φ h' :=
  F.mono (fun a o' hr e => hk a o' (fun z => by subst z; rw [ho] at e; cases e; exact hs hr) e) (List.prefix_refl _) (fun o e => hk _ _ hl e) F.own.1 fun y c hy o e => ⟨hk _ _ (hc y c hy) e, (F.cells y c hy).2.1⟩

/-- a local name is stored: only the locals change -/
theorem store_loc (I : Inv prog w ad base σ φ s.heap) (F : Fm ad base sc ρ env φ s.heap) {x : Str} {val : Value} {v : V} {P : Unit → Shared → Prop} (hX : env.locals ∈ X) (hx : x ∈ names) (hl : sc.names.lookup x = some .local) (r : Rep ad φ s.heap val v)
    (q : ∀ s', ToX prog w ad base X φ s σ φ s' → (∀ a o, a ≠ env.locals → s.heap.get? a = some o → s'.heap.get? a = some o) → Fm ad base sc (upd ρ (nm x) v) env φ s'.heap → P () s') : wpAny (model prog w) A (storeName env x val) P E s := by
  obtain ⟨m, hn, hm⟩ := F.loc
  have hn' := hn
  obtain ⟨o, es, ep, ho, hd, _⟩ := hn'
  refine wpAny_storeName_local (F.kl x hl) hn (fun h' hn2 hs => ?_) (by rw [F.fn]; rfl)
  have hk : ∀ a o, a ≠ env.locals → s.heap.get? a = some o → h'.get? a = some o := fun a o hne e => hs.extBut a o hne e
  have Y : ToX prog w ad base X φ s σ φ { s with heap := h', toks := s.toks + 1 } := ToX.place I hX F.own.1 F.own.2 ho (soft_dict hd) hk
  refine q _ Y hk ⟨F.fn, F.kl, F.kg, F.kc, F.kf, F.gl, F.bu, F.own, ⟨_, hn2, fun y u h1 h2 h3 => ?_⟩, fun y c hy => ?_, fun y hy => ?_, F.inj⟩
  · by_cases e : y = x
    · subst e
      rw [upd_same] at h3
      cases h3
      exact ⟨val, by simp, Y.rep r⟩
    · rw [upd_ne (fun z => e (nm_inj h1 hx z))] at h3
      obtain ⟨val', h4, h5⟩ := hm y u h1 h2 h3
      exact ⟨val', by simp [e, h4], Y.rep h5⟩
  · obtain ⟨⟨v₀, hc⟩, h2, h3, h4⟩ := F.cells y c hy
    exact ⟨⟨v₀, hc.sameBut hs h4⟩, h2, h3, h4⟩
  · obtain ⟨c, v₀, h1, h2, h6⟩ := F.cel y hy
    obtain ⟨_, _, _, h4⟩ := F.cells y c (lookup_mem h1)
    refine ⟨c, v₀, h1, h2.sameBut hs h4, fun u q1 q2 => ?_⟩
    have e : y ≠ x := fun e => by subst e; rw [hl] at hy; rcases hy with z | z <;> cases z
    rw [upd_ne (fun z => e (nm_inj q1 hx z))] at q2
    obtain ⟨val', h4, h5⟩ := h6 u q1 q2
    exact ⟨val', h4, Y.rep h5⟩

theorem Fm.congr {ρ' : Loc} (F : Fm ad base sc ρ env φ s.heap) (h : ∀ y, ρ' y = ρ y) : Fm ad base sc ρ' env φ s.heap := by
  have : ρ' = ρ := funext h
  rw [this]; exact F

theorem forIn_false {c : List Expr} {P : Bool → Shared → Prop} (q : P false s) :
    wpAny (model prog w) A (forIn c false fun c r => if r = true then do let ok ← isTrue c env (eval c env); pure (ForInStep.yield ok) else pure (ForInStep.yield r)) P E s := by
  induction c with
  | nil => rw [List.forIn_nil]; exact wpAny_pure q
  | cons e r ih =>
    rw [List.forIn_cons]
    simp only [Bool.false_eq_true, if_false]
    exact wpAny_bind (wpAny_pure ih)

theorem sifs (HT : ST prog w ad base n) {ok : Bool} : ∀ {ifs : List Expr} {σ : Store} {φ : List Addr} {s : Shared} {P : Bool → Shared → Prop}, evIfs (fun e σ => ev n e ρ σ) (ifs.map (trE k sc)) σ = some (ok, σ') → Fm ad base sc ρ env φ s.heap → Inv prog w ad base σ φ s.heap → AOk n A →
    (∀ s' φ', To prog w ad base φ s σ' φ' s' → P ok s') →
    wpAny (model prog w) A (forIn ifs true fun c r => if r = true then do let ok ← isTrue c env (eval c env); pure (ForInStep.yield ok) else pure (ForInStep.yield r)) P E s
  | [], σ, φ, s, P, he, F, I, HA, q => by
    simp only [List.map_nil, evIfs] at he
    cases he
    rw [List.forIn_nil]; exact wpAny_pure (q _ _ (To.refl I))
  | e :: r, σ, φ, s, P, he, F, I, HA, q => by
    simp only [List.map_cons, evIfs] at he
    rw [List.forIn_cons]
    simp only [if_true]
    split at he
    · rename_i v1 σ1 h1
      split at he
      · rename_i ht
        refine wpAny_bind (wpAny_bind (HT h1 ht F I HA fun s1 φ1 x1 => wpAny_pure ?_))
        exact sifs HT he (F.to x1) x1.inv HA fun s2 φ2 x2 => q _ _ (x1.trans x2)
      · rename_i ht
        cases he
        refine wpAny_bind (wpAny_bind (HT h1 ht F I HA fun s1 φ1 x1 => wpAny_pure ?_))
        exact forIn_false (q _ _ x1)
      · cases he
    · cases he

theorem len_push {α : Type} {l : List α} {a : α} {t : Nat} (h : l.length + (t + 1) ≤ 100) : (l ++ [a]).length + t ≤ 100 := by
  rw [List.length_append]; exact Nat.le_trans (Nat.le_of_eq (Nat.add_right_comm _ _ _)) h
/-- one turn of a comprehension -/
noncomputable def sCompOne (n k : Nat) (sc : Scope) (ifs : List Expr) (elt : Expr) (ρ : Loc) (x : Nat) (v : V) (σ : Store) : Option (Option V × Store) :=
  one? (evIfs (fun e σ => ev n e (upd ρ x v) σ) (ifs.map (trE k sc)) σ) fun (ok, σ) => if ok then (ev n (trE k sc elt) (upd ρ x v) σ).map fun (w, σ) => (some w, σ) else some (none, σ)
/-- what holds between two turns -/
inductive CLI (prog : Program) (w : World) (ad : Ads) (base : Heap) (env : Env) (D it : Addr) (φ : List Addr) (s : Shared) (sc : Scope) (ρ : Loc) (x : Nat) (src : V) (run : Nat → Nat → List V → Store → Prop) (t : Nat) (s' : Shared) : Prop
  | mk {k : Nat} {acc : List V} {σ : Store} {φ' : List Addr} {items : Array Value} {ρ' : Loc} (y : ToX prog w ad base [env.locals, D, it] φ s σ φ' s') (hr : run t k acc σ) (hi : ItAt ad φ' s'.heap it k src) (hiφ : it ∉ φ') (hDl : s'.heap.PlainList D items)
      (hDφ : D ∉ φ') (hreps : Reps ad φ' s'.heap items.toList acc) (hlen : acc.length + t ≤ 100) (F : Fm ad base sc ρ' env φ' s'.heap) (hρ : ∀ y, y ≠ x → ρ' y = ρ y) : CLI prog w ad base env D it φ s sc ρ x src run t s'

/-- the loop of a comprehension -/
theorem comp_loop {σ1 σ2 : Store} {x : Str} {px : Pos} {ifs : List Expr} {elt iter : Expr} {scp : Scope} {cpos : Pos} {src : V} {vs : List V} {it D : Addr} {R : Result → Shared → Prop} (H : SE prog w ad base n) (HT : ST prog w ad base n)
    (hx : x ∈ names) (hl : sc.names.lookup x = some .local) (hD : base.get? D = none) (hit : base.get? it = none) (hCD : env.locals ≠ D) (hCi : env.locals ≠ it) (hDi : D ≠ it) (hcD : ∀ y c, (y, c) ∈ env.cells → c ≠ D ∧ c ≠ it) (HA : AOk n A)
    (fin : ∀ s' φ' items, ToX prog w ad base [env.locals, D, it] φ s σ2 φ' s' → s'.heap.PlainList D items → D ∉ φ' → Reps ad φ' s'.heap items.toList vs → (∃ m, s'.heap.Ns env.locals m) → env.locals ∉ φ' → R (.ok .next) s')
    (hrun : compLoop src (sCompOne n k sc ifs elt ρ (nm x)) laps 0 [] σ1 = some (vs, σ2))
    (I0 : Inv prog w ad base σ1 φ s.heap) (hi0 : ItAt ad φ s.heap it 0 src) (hiφ : it ∉ φ) (hD0 : s.heap.PlainList D #[]) (hDφ : D ∉ φ) {ρ0 : Loc} (F0 : Fm ad base sc ρ0 env φ s.heap) (hρ : ∀ y, y ≠ nm x → ρ0 y = ρ y) :
    codeAny (model prog w) A (.compLoop (.ListComp elt [⟨.Name x px, iter, ifs, 0⟩] scp cpos) 0 (.ref it) (.ref D) env) R s := by
  refine codeAny_compLoop_tests (CLI prog w ad base env D it φ s sc ρ (nm x) src fun t' k' acc σ => compLoop src (sCompOne n k sc ifs elt ρ (nm x)) t' k' acc σ = some (vs, σ2)) ?_ laps
    (.mk (ToX.refl I0) hrun hi0 hiφ hD0 hDφ .nil (by decide) F0 hρ)
  intro t s' hI
  obtain @⟨k', acc, σk, φk, items, ρk, y, hr, hi, hiφ, hDl, hDφ, hreps, hlen, F, hρk⟩ := hI
  have I := y.inv
  obtain ⟨oi, hoi, hsi⟩ := hi.soft
  obtain ⟨nD, hoD⟩ := id hDl
  have hsD : ¬ Rigid { cls := .type "list", data := .seq items nD } := fun z => by rcases z.1 with z | z | ⟨c, z⟩ <;> simp at z
  cases t with
  | zero => simp [compLoop] at hr
  | succ t =>
    simp only [compLoop] at hr
    cases hat : itemAt σk src k' with
    | none => rw [hat] at hr; cases hr
    | some r =>
      rw [hat] at hr
      refine iter_next HA.1 I hi hiφ hat (fun v hv val h' tk hk hi' rv => ?_) (fun hv h' tk hk => ?_)
      · -- one more
        subst hv
        simp only at hr
        have y1 : ToX prog w ad base [env.locals, D, it] φk s' σk φk { s' with heap := h', toks := tk } := ToX.place I (by simp) hiφ hit hoi hsi hk
        have F1 : Fm ad base sc ρk env φk h' := F.place hoi hsi hCi (fun a c hc => (hcD a c hc).2) hk
        refine wpAny_assign_Name (store_loc y1.inv F1 (X := [env.locals, D, it]) (by simp) hx hl rv fun s2 y2 hk2 F2 => ?_)
        have F2' : Fm ad base sc (upd ρ (nm x) v) env φk s2.heap := F2.congr fun z => by
          by_cases hz : z = nm x
          · subst hz; rw [upd_same, upd_same]
          · rw [upd_ne hz, upd_ne hz, hρk z hz]
        have hD2 : s2.heap.PlainList D items := ⟨nD, hk2 _ _ (Ne.symm hCD) (hk _ _ hDi hoD)⟩
        have hi2 : ItAt ad φk s2.heap it (k' + 1) src := hi'.mono y2.rigid (fun o e => hk2 _ _ (Ne.symm hCi) e) (List.prefix_refl _)
        have reps2 : Reps ad φk s2.heap items.toList acc := (y1.trans y2).reps hreps
        split at hr
        · -- the element is taken
          rename_i wv σ4 h4
          simp only [sCompOne, one_some] at h4
          obtain ⟨⟨ok, σ3⟩, h5, h6⟩ := h4
          refine sifs HT h5 F2' y2.inv HA fun s3 φ3 x3 => ?_
          cases ok with
          | false => simp at h6
          | true =>
            simp only [if_true, Option.map_eq_some_iff] at h6 ⊢
            obtain ⟨⟨w1, σ5⟩, h7, h8⟩ := h6
            cases h8
            refine H h7 (F2'.to x3) x3.inv HA fun val4 s4 φ4 x4 r4 => ?_
            have x24 := x3.trans x4
            have hD4 : s4.heap.PlainList D items := hD2.at fun o e => x24.kep hDφ e
            have hDφ4 : D ∉ φ4 := by obtain ⟨n2, e2⟩ := hD2; exact x24.out e2 hDφ
            have hiφ4 : it ∉ φ4 := by obtain ⟨o2, e2, _⟩ := hi2.soft; exact x24.out e2 hiφ
            have F4 := F2'.to x24
            have hsz : items.size = acc.length := hreps.size
            refine wpAny_list_append_plain hD4 (fun h5 hD5 hs5 => ?_) (by have : sizeLine = 2 ^ 24 := rfl; omega)
            obtain ⟨n4, e4⟩ := hD4
            have hs4 : ¬ Rigid { cls := .type "list", data := .seq items n4 } := fun z => by rcases z.1 with z | z | ⟨c, z⟩ <;> simp at z
            have hk5 : ∀ a o, a ≠ D → s4.heap.get? a = some o → h5.get? a = some o := fun a o hne e => hs5.extBut a o hne e
            have y5 : ToX prog w ad base [env.locals, D, it] φ4 s4 σ5 φ4 { s4 with heap := h5 } := ToX.place (tk := s4.toks) x4.inv (by simp) hDφ4 hD e4 hs4 hk5
            have y24 : ToX prog w ad base [env.locals, D, it] φk s2 σ5 φ4 s4 := x24.weaken fun a ha => by
              simp only [List.mem_cons, List.not_mem_nil, or_false] at ha
              rcases ha with rfl | rfl | rfl
              · obtain ⟨m2, ⟨o2, _, _, e2, _⟩, _⟩ := F2'.loc; exact ⟨o2, e2⟩
              · obtain ⟨n2, e2⟩ := hD2; exact ⟨_, e2⟩
              · obtain ⟨o2, e2, _⟩ := hi2.soft; exact ⟨o2, e2⟩
            refine ⟨t, Nat.lt_succ_self _, .mk ((((y.trans y1).trans y2).trans y24).trans y5) hr ?_ hiφ4 hD5 hDφ4 ?_ (len_push hlen) (F4.place e4 hs4 hCD (fun a c hc => (hcD a c hc).1) hk5) fun z hz => upd_ne hz⟩
            · refine (hi2.mono x24.rigid (fun o e => x24.kep hiφ e) x24.pre).mono y5.rigid (fun o e => hk5 _ _ (Ne.symm hDi) e) (List.prefix_refl _)
            · rw [Array.toList_push]
              exact (y5.reps (x24.reps reps2)).append (.one (y5.rep r4))
        · -- left out
          rename_i σ4 h4
          simp only [sCompOne, one_some] at h4
          obtain ⟨⟨ok, σ3⟩, h5, h6⟩ := h4
          refine sifs HT h5 F2' y2.inv HA fun s3 φ3 x3 => ?_
          cases ok with
          | true => simp at h6
          | false =>
            simp only [Bool.false_eq_true, if_false] at h6 ⊢
            cases h6
            have hD3 : s3.heap.PlainList D items := hD2.at fun o e => x3.kep hDφ e
            have hDφ3 : D ∉ φ3 := by obtain ⟨n2, e2⟩ := hD2; exact x3.out e2 hDφ
            have hiφ3 : it ∉ φ3 := by obtain ⟨o2, e2, _⟩ := hi2.soft; exact x3.out e2 hiφ
            have y23 : ToX prog w ad base [env.locals, D, it] φk s2 σ4 φ3 s3 := x3.weaken fun a ha => by
              simp only [List.mem_cons, List.not_mem_nil, or_false] at ha
              rcases ha with rfl | rfl | rfl
              · obtain ⟨m2, ⟨o2, _, _, e2, _⟩, _⟩ := F2'.loc; exact ⟨o2, e2⟩
              · obtain ⟨n2, e2⟩ := hD2; exact ⟨_, e2⟩
              · obtain ⟨o2, e2, _⟩ := hi2.soft; exact ⟨o2, e2⟩
            exact ⟨t, Nat.lt_succ_self _, .mk (((y.trans y1).trans y2).trans y23) hr (hi2.mono x3.rigid (fun o e => x3.kep hiφ e) x3.pre) hiφ3 hD3 hDφ3 (x3.reps reps2) (Nat.le_of_succ_le hlen) (F2'.to x3) fun z hz => upd_ne hz⟩
        · cases hr
      · -- over
        subst hv
        simp only at hr
        cases hr
        have y1 : ToX prog w ad base [env.locals, D, it] φk s' σ2 φk { s' with heap := h', toks := tk } := ToX.place I (by simp) hiφ hit hoi hsi hk
        have F1 : Fm ad base sc ρk env φk h' := F.place hoi hsi hCi (fun a c hc => (hcD a c hc).2) hk
        obtain ⟨m, hm, _⟩ := F1.loc
        exact fin _ _ items (y.trans y1) ⟨nD, hk _ _ hDi hoD⟩ hDφ (y1.reps hreps) ⟨m, hm⟩ F1.own.1
end
end Ab

end
section
set_option maxRecDepth 100000
namespace Ab
open PySem PySem.W PySem.Calls PyProof.Rows PySem.Spec

theorem lookup_relabel {env : Env} : ∀ {names : List (Str × NameKind)} {x : Str},
    (names.map fun (n, k) => if (k == NameKind.free && env.scope.kind == .function && env.kindOf n == some .cell) then (n, NameKind.cell) else (n, k)).lookup x =
      (names.lookup x).map fun k => if (k == NameKind.free && env.scope.kind == .function && env.kindOf x == some .cell) then NameKind.cell else k
  | [], x => rfl
  | (n, k) :: r, x => by
    have ih := @lookup_relabel env r x
    show List.lookup x ((if (k == NameKind.free && env.scope.kind == .function && env.kindOf n == some .cell) = true then (n, NameKind.cell) else (n, k)) :: _) = _
    cases hx : x == n with
    | true =>
      have hxn : x = n := beq_iff_eq.mp hx
      subst hxn
      by_cases hc : (k == NameKind.free && env.scope.kind == .function && env.kindOf x == some .cell) = true
      · rw [if_pos hc, List.lookup_cons_self, List.lookup_cons_self, Option.map_some, if_pos hc]
      · rw [if_neg hc, List.lookup_cons_self, List.lookup_cons_self, Option.map_some, if_neg hc]
    | false =>
      by_cases hc : (k == NameKind.free && env.scope.kind == .function && env.kindOf n == some .cell) = true
      · rw [if_pos hc]; simp only [List.lookup_cons, hx]; exact ih
      · rw [if_neg hc]; simp only [List.lookup_cons, hx]; exact ih

theorem closure_ok {env : Env} (scope : Scope) (h : ∀ y ∈ scope.names, y.2 = .free → ∃ c, env.cells.lookup y.1 = some c) :
    ∃ cl, closureFor scope env = pure cl ∧ (∀ y c, (y, c) ∈ cl → env.cells.lookup y = some c) ∧ (∀ y ∈ scope.names, y.2 = .free → (y.1 ∈ cl.map (·.1))) := by
  have key : ∀ (l : List (Str × NameKind)) (acc : List (Str × Addr)), (∀ y ∈ l, y.2 = .free → ∃ c, env.cells.lookup y.1 = some c) → (∀ y c, (y, c) ∈ acc → env.cells.lookup y = some c) →
      ∃ cl, (forIn l acc fun (x : Str × NameKind) (cs : List (Str × Addr)) => (if x.2 == .free then do let a ← cellOf env x.1; pure (ForInStep.yield ((x.1, a) :: cs)) else pure (ForInStep.yield cs) : Sem (ForInStep (List (Str × Addr))))) = pure cl ∧
        (∀ y c, (y, c) ∈ cl → env.cells.lookup y = some c) ∧ (∀ y ∈ l, y.2 = .free → (y.1 ∈ cl.map (·.1))) ∧ (∀ y ∈ acc.map (·.1), y ∈ cl.map (·.1)) := by
    intro l
    induction l with
    | nil => intro acc _ h2; exact ⟨acc, by rw [List.forIn_nil], h2, by simp, fun _ h => h⟩
    | cons p r ih =>
      intro acc h1 h2
      obtain ⟨y, kd⟩ := p
      by_cases hf : kd = .free
      · subst hf
        obtain ⟨c, hc⟩ := h1 (y, .free) (by simp) rfl
        obtain ⟨cl, g1, g2, g3, g4⟩ := ih ((y, c) :: acc) (fun z hz => h1 z (List.mem_cons_of_mem _ hz)) (fun z d hz => by
          rcases List.mem_cons.mp hz with e | hz
          · cases e; exact hc
          · exact h2 z d hz)
        refine ⟨cl, ?_, g2, fun z hz hfz => ?_, fun z hz => g4 z (by simp at hz ⊢; exact .inr hz)⟩
        · rw [List.forIn_cons]
          have e1 : ((NameKind.free : NameKind) == NameKind.free) = true := by decide
          simp only [e1, if_true]
          unfold cellOf
          rw [hc]
          simp only [pure_bind]
          exact g1
        · rcases List.mem_cons.mp hz with rfl | hz
          · exact g4 y (by simp)
          · exact g3 z hz hfz
      · obtain ⟨cl, g1, g2, g3, g4⟩ := ih acc (fun z hz => h1 z (List.mem_cons_of_mem _ hz)) h2
        refine ⟨cl, ?_, g2, fun z hz hfz => ?_, g4⟩
        · rw [List.forIn_cons]
          have e1 : (kd == NameKind.free) = false := by simpa using hf
          simp only [e1, Bool.false_eq_true, if_false, pure_bind]
          exact g1
        · rcases List.mem_cons.mp hz with rfl | hz
          · exact absurd hfz hf
          · exact g3 z hz hfz
  obtain ⟨cl, g1, g2, g3, _⟩ := key scope.names [] h (by simp)
  refine ⟨cl, ?_, g2, g3⟩
  unfold closureFor
  simp only [pure_bind]
  have : (fun (x : Str × NameKind) (cs : List (Str × Addr)) => (match x with
      | (name, kind) => if (kind == NameKind.free) = true then do
            let __do_lift ← cellOf env name
            pure (ForInStep.yield ((name, __do_lift) :: cs)) else pure (ForInStep.yield cs) : Sem (ForInStep (List (Str × Addr))))) =
      fun (x : Str × NameKind) (cs : List (Str × Addr)) => (if x.2 == .free then do let a ← cellOf env x.1; pure (ForInStep.yield ((x.1, a) :: cs)) else pure (ForInStep.yield cs) : Sem (ForInStep (List (Str × Addr)))) := by
    funext x cs; rfl
  rw [← this] at g1
  simpa using g1

section
variable {prog : Program} {w : World} {ad : Ads} {base : Heap} {K : Frag} {mg mb : Str → Option Value} {σ σ' : Store} {φ φ' : List Addr} {s s' : Shared} {A : Around} {E : Value → Shared → Prop} {Q : Value → Shared → Prop}
  {n k : Nat} {sc : Scope} {ρ : Loc} {env : Env} {v : V} {pos : Pos} {X : List Addr}

theorem To.none (x : To prog w ad base φ s σ' φ' s') {a : Addr} (h : s'.heap.get? a = none) : s.heap.get? a = none := by
  cases e : s.heap.get? a with
  | none => rfl
  | some o =>
    by_cases hm : a ∈ φ
    · obtain ⟨i, hi⟩ := List.getElem?_of_mem hm
      obtain ⟨o', e', _⟩ := x.inv.obj (List.mem_of_getElem? (pre_get x.pre hi))
      rw [h] at e'; cases e'
    · rw [x.kep hm e] at h; cases h

theorem ToX.close {Y : List Addr} {σ1 σ2 : Store} {φ1 φ2 : List Addr} {s1 s2 : Shared} (x : ToX prog w ad base X φ s σ1 φ1 s1) (y : ToX prog w ad base Y φ1 s1 σ2 φ2 s2) (hY : ∀ a ∈ Y, s.heap.get? a = none) (hX : ∀ a ∈ X, ∃ o, s1.heap.get? a = some o) :
    ToX prog w ad base X φ s σ2 φ2 s2 where
  gens := y.gens.trans x.gens
  os := y.os.trans x.os
  keep := fun a o ha hx e => y.keep a o (fun hm => (x.new a hm).elim ha fun q => by rw [q.1] at e; cases e) (fun hm => by rw [hY a hm] at e; cases e) (x.keep a o ha hx e)
  rigid := fun a o ho e => y.rigid a o ho (x.rigid a o ho e)
  pre := x.pre.trans y.pre
  new := fun a ha => by
    rcases y.new a ha with q | ⟨q, hx⟩
    · exact x.new a q
    · by_cases hm : a ∈ φ
      · exact .inl hm
      · have hxX : a ∉ X := fun hm2 => by obtain ⟨o, e⟩ := hX a hm2; rw [q] at e; cases e
        refine .inr ⟨?_, hxX⟩
        cases e : s.heap.get? a with
        | none => rfl
        | some o => rw [x.keep a o hm hxX e] at q; cases q
  inv := y.inv

theorem not_set {n : Nat} {r : V × Store} {it : Expr} (h : ev n (trE k sc it) ρ σ = some r) : ∀ x, foldedSetIterable it env x = pure x := by
  intro x
  cases it <;> first | rfl | (cases k <;> exact (ev_dead h).elim)

theorem se_comp {use : Option (Value → Sem Unit)} (H : SE prog w ad base n) (HT : ST prog w ad base n) {x : Str} {px : Pos} {iter elt : Expr} {ifs : List Expr} {scope : Scope} {cpos cpos' : Pos} (hok : compOk sc scope x = true)
    (he : ev (n + 1) (.comp (nm x) (trE k sc iter) (ifs.map (trE k scope)) (trE k scope elt)) ρ σ = some (v, σ')) (F : Fm ad base sc ρ env φ s.heap) (I : Inv prog w ad base σ φ s.heap) (HA : AOk (n + 1) A)
    (q : ∀ D C s' φ' vs items σ2, To prog w ad base φ s σ2 φ' s' → v = .ref σ2.length → σ' = σ2 ++ [.list vs] → s.heap.get? D = none → s.heap.get? C = none → D ≠ C → D ∉ φ' → C ∉ φ' → s'.heap.PlainList D items → Reps ad φ' s'.heap items.toList vs →
      (∃ m, s'.heap.Ns C m) → compPost (model prog w) A E use Q (.ref D) C (.ok .next) s') :
    wpAny (model prog w) A (comprehension (.ListComp elt [⟨.Name x px, iter, ifs, 0⟩] scope cpos) scope env cpos' (newList []) false (eval iter env) use) Q E s := by
  have HA' := HA.less (Nat.le_succ n)
  simp only [compOk, Bool.and_eq_true, beq_iff_eq, List.all_eq_true, Bool.or_eq_true, bne_iff_ne, ne_eq] at hok
  obtain ⟨⟨⟨⟨⟨hkind, hxk⟩, hxl⟩, hcl1⟩, hcl2⟩, hcl3⟩ := hok
  have hx := known_mem hxk
  simp only [ev, one_some] at he
  obtain ⟨⟨src, σ1⟩, h1, ⟨vs, σ2⟩, h2, h3⟩ := he
  cases h3
  have hfree : ∀ y ∈ scope.names, y.2 = .free → sc.names.lookup y.1 = some .cell ∧ scope.names.lookup y.1 = some .free := fun y hy hf => by
    rcases hcl3 y hy with z | z
    · exact absurd hf z
    · exact z
  obtain ⟨cl, hclos, hc1, hc2⟩ := closure_ok (env := env) scope fun y hy hf => by
    obtain ⟨c, _, e, _⟩ := F.cel y.1 (.inl (hfree y hy hf).1)
    exact ⟨c, e⟩
  have hcell : ∀ y ∈ scope.names, y.2 ≠ .cell := fun y hy => (hcl1 y hy).1
  have hnames : ∀ y ∈ scope.names, y.2 = .local → scope.names.lookup y.1 = some .local := fun y hy hl => by
    rcases hcl2 y hy with z | z
    · exact absurd hl z
    · exact z
  obtain ⟨z, hz⟩ : ∃ z, itemAt σ1 src 0 = some z := by
    have h2' := h2
    unfold laps compLoop at h2'
    cases hat : itemAt σ1 src 0 with
    | none => rw [hat] at h2'; simp at h2'
    | some z => exact ⟨z, rfl⟩
  refine wpAny_comprehension_free (cl := cl) rfl (not_set h1) hclos hkind hnames (H h1 F I HA' fun val s1 φ1 x1 r1 => iter_start x1.inv r1 0 hz fun it h2h hitn hits hk2 hitφ hit0 => ?_)
  have x2 : To prog w ad base φ1 s1 σ1 φ1 { s1 with heap := h2h } := To.kept (tk := s1.toks) x1.inv hk2
  refine wpAny_newObj_type (wpAny_newFunctionEnv hcell (by intro y hy; simp at hy) (fun h4 hns hsb => ?_) hkind)
  dsimp only at hns hsb ⊢
  generalize hH2 : h2h.push { cls := .type "list", dict := none, data := .seq ([] : List Value).toArray } = H2 at hns hsb ⊢
  have hC : H2.objs.size = h2h.objs.size + 1 := by rw [← hH2, Heap.size_push]
  have hDC : h2h.objs.size ≠ H2.objs.size := by rw [hC]; exact Nat.ne_of_lt (Nat.lt_succ_self _)
  have hDn : h2h.get? h2h.objs.size = none := get_size_none _
  have hCn : h2h.get? H2.objs.size = none := by
    cases e : h2h.get? H2.objs.size with
    | none => rfl
    | some o => exact absurd (Heap.lt_size e) (by rw [hC]; exact Nat.not_lt.mpr (Nat.le_succ _))
  have old : ∀ b o, h2h.get? b = some o → h4.get? b = some o := fun b o e => by
    have hlt := Heap.lt_size e
    exact hsb.extBut b o (Nat.ne_of_lt (by rw [hC]; exact Nat.lt_succ_of_lt hlt)) (Heap.get?_push_of_some _ (hH2 ▸ Heap.get?_push_of_some _ e))
  have hacc : h4.PlainList h2h.objs.size #[] := ⟨_, hsb.extBut _ _ hDC (Heap.get?_push_of_some _ (hH2 ▸ Heap.get?_push_size _ rfl))⟩
  have x4 : To prog w ad base φ1 { s1 with heap := h2h } σ1 φ1 { s1 with heap := h4, toks := s1.toks + ([] : List (Str × Value)).length } := To.kept (s := { s1 with heap := h2h }) x2.inv old
  have F2 := F.to (x1.trans x2)
  have F4 := F2.to x4
  have hCx : h2h.objs.size ∉ φ1 ∧ base.get? h2h.objs.size = none := ⟨(x2.inv.new hDn).2, (x2.inv.new hDn).1⟩
  have hCy : H2.objs.size ∉ φ1 ∧ base.get? H2.objs.size = none := ⟨(x2.inv.new hCn).2, (x2.inv.new hCn).1⟩
  have cellH : ∀ y c, (y, c) ∈ cl → ∃ o, h2h.get? c = some o := fun y c hy => by
    obtain ⟨⟨v₀, o, e, _⟩, _⟩ := F2.cells y c (lookup_mem (hc1 y c hy))
    exact ⟨o, e⟩
  have clook : ∀ y, scope.names.lookup y = some .free → ∃ c, cl.lookup y = some c ∧ env.cells.lookup y = some c := fun y hy => by
    have hm := hc2 (y, .free) (lookup_mem hy) rfl
    cases e : cl.lookup y with
    | none =>
      rw [List.lookup_eq_none_iff] at e
      obtain ⟨p, hp, hpe⟩ := List.mem_map.mp hm
      have := e p hp
      simp at this hpe
      exact absurd hpe.symm this
    | some c => exact ⟨c, rfl, hc1 y c (lookup_mem e)⟩
  have FC : Fm ad base scope (fun y => if y = nm x then none else ρ y) (compEnvC scope cl H2.objs.size env) φ1 h4 := by
    refine ⟨hkind, fun y hy => ?_, fun y hy => ?_, fun y hy => ?_, fun y hy => ?_, F.gl, F.bu, hCy, ⟨_, hns, fun y u h1 h2 h3 => ?_⟩, fun y c hy => ?_, fun y hy => ?_, fun y z c hy hz => ?_⟩
    · show (scope.names.map _).lookup y = _; rw [lookup_relabel, hy]; rfl
    · show (scope.names.map _).lookup y = _; rw [lookup_relabel, hy]; rfl
    · exact absurd rfl (hcell _ (lookup_mem hy))
    · show (scope.names.map _).lookup y = _ ∨ (scope.names.map _).lookup y = _
      rw [lookup_relabel, hy]
      simp only [Option.map_some]
      split
      · exact .inl rfl
      · exact .inr rfl
    · have hyx : y = x := by
        rcases (hcl1 _ (lookup_mem h2)).2 with (g | g) | g
        · exact absurd rfl g
        · exact g
        · exfalso
          dsimp only at g
          rw [g] at h1
          revert h1; decide +kernel
      subst hyx
      simp at h3
    · obtain ⟨⟨v₀, hcv⟩, g2, g3, g4⟩ := F4.cells y c (lookup_mem (hc1 y c hy))
      refine ⟨⟨v₀, hcv⟩, g2, g3, fun e => ?_⟩
      obtain ⟨o, eo⟩ := cellH y c hy
      rw [show c = H2.objs.size from e, hCn] at eo; cases eo
    · rcases hy with hy | hy
      · exact absurd rfl (hcell _ (lookup_mem hy))
      · obtain ⟨c, e1, e2⟩ := clook y hy
        obtain ⟨c', v₀, e3, e4, e5⟩ := F4.cel y (.inl (hfree _ (lookup_mem hy) rfl).1)
        rw [e2] at e3; cases e3
        refine ⟨c, v₀, e1, e4, fun u q1 q2 => ?_⟩
        have hne : nm y ≠ nm x := fun z => by
          have := nm_inj q1 hx z
          subst this
          rw [hxl] at hy; cases hy
        rw [if_neg hne] at q2
        exact e5 u q1 q2
    · exact F.inj y z c (hc1 _ _ (lookup_mem hy)) (hc1 _ _ (lookup_mem hz))
  have hit4 : ItAt ad φ1 h4 it 0 src := hit0.mono (fun a o _ e => old a o e) (fun o e => old _ _ e) (List.prefix_refl _)
  obtain ⟨oit, hoit⟩ := hits
  have hbit := (x1.inv.new hitn).1
  have hDi : h2h.objs.size ≠ it := fun e => by rw [← e, hDn] at hoit; cases hoit
  have hCi : H2.objs.size ≠ it := fun e => by rw [← e, hCn] at hoit; cases hoit
  have loop : codeAny (model prog w) A (.compLoop (.ListComp elt [⟨.Name x px, iter, ifs, 0⟩] scope cpos) 0 (.ref it) (.ref h2h.objs.size) (compEnvC scope cl H2.objs.size env))
      (compPost (model prog w) A E use Q (.ref h2h.objs.size) H2.objs.size) { s1 with heap := h4, toks := s1.toks + ([] : List (Str × Value)).length } := by
    refine comp_loop (sc := scope) (k := k) (σ1 := σ1) (σ2 := σ2) (vs := vs) (ρ := ρ) (ρ0 := fun y => if y = nm x then Option.none else ρ y) (env := compEnvC scope cl H2.objs.size env) H HT hx hxl hCx.2 hbit (Ne.symm hDC) hCi hDi (fun y c hy => ?_) HA' ?_ h2 x4.inv hit4 hitφ hacc hCx.1 FC (fun y hy => if_neg hy)
    · obtain ⟨o, eo⟩ := cellH y c hy
      refine ⟨fun e => (by rw [e, hDn] at eo; cases eo), fun e => ?_⟩
      obtain ⟨⟨v₀, o1, e1, _⟩, _⟩ := (F.to x1).cells y c (lookup_mem (hc1 y c hy))
      rw [e, hitn] at e1; cases e1
    · intro s' φ' items y hD' hDφ' hreps hNs hCφ'
      have hall : ∀ a ∈ [H2.objs.size, h2h.objs.size, it], s.heap.get? a = Option.none := fun a ha => by
        simp only [List.mem_cons, List.not_mem_nil, or_false] at ha
        rcases ha with rfl | rfl | rfl
        · exact (x1.trans x2).none hCn
        · exact (x1.trans x2).none hDn
        · exact x1.none hitn
      have y' := To.close ((x1.trans x2).trans x4) y hall
      exact q _ _ _ _ vs items σ2 y' rfl rfl (hall _ (by simp)) (hall _ (by simp)) hDC hDφ' hCφ' hD' hreps hNs
  exact codeAny_compStart_list loop (iter_self hit4 loop)

/-- a comprehension as an expression -/
theorem se_comp_plain (H : SE prog w ad base n) (HT : ST prog w ad base n) {x : Str} {px : Pos} {iter elt : Expr} {ifs : List Expr} {scope : Scope} {cpos : Pos} (hok : compOk sc scope x = true)
    (he : ev (n + 1) (.comp (nm x) (trE k sc iter) (ifs.map (trE k scope)) (trE k scope elt)) ρ σ = some (v, σ')) (F : Fm ad base sc ρ env φ s.heap) (I : Inv prog w ad base σ φ s.heap) (HA : AOk (n + 1) A)
    (q : Ret prog w ad base φ s σ' v Q) : wpAny (model prog w) A (eval (.ListComp elt [⟨.Name x px, iter, ifs, 0⟩] scope cpos) env) Q E s := by
  rw [arm_eval_ListComp]
  refine se_comp (use := Option.none) H HT hok he F I HA fun D C s' φ' vs items σ2 X hv hσ hD hC hDC hDφ hCφ hDl hr hNs => ?_
  subst hv hσ
  obtain ⟨m, hm⟩ := hNs
  refine ⟨m, hm, fun h' hs' => ?_⟩
  obtain ⟨oC, es, ep, eC, hdC, _⟩ := id hm
  obtain ⟨nD, eD⟩ := id hDl
  have hk : ∀ a o, a ≠ C → s'.heap.get? a = some o → h'.get? a = some o := fun a o hne e => hs'.extBut a o hne e
  have hbC := (I.new hC).1
  have y : ToX prog w ad base [C] φ' s' σ2 φ' { s' with heap := h' } := ToX.place (tk := s'.toks) X.inv (by simp) hCφ hbC eC (soft_dict hdC) hk
  have X2 := To.close X y (fun a ha => by rw [List.mem_singleton.mp ha]; exact hC)
  have hsD : ¬ Rigid { cls := .type "list", data := .seq items nD } := fun z => by rcases z.1 with z | z | ⟨c, z⟩ <;> simp at z
  have X3 := ToX.late (tk := s'.toks) (c := .list vs) I X2 hD (hk _ _ hDC eD) (by simp) hDφ hsD (fun a o _ e => e)
    ⟨_, _, hk _ _ hDC eD, (y.reps hr).mono (fun a o _ e => e) (List.prefix_append _ _)⟩
  exact q _ _ _ X3 (.ref (by rw [← X.inv.len]; simp))
end
end Ab

end
section
set_option maxRecDepth 100000
namespace Ab
open PySem PySem.W PySem.Calls PyProof.Rows PySem.Spec

section
variable {prog : Program} {w : World} {ad : Ads} {base : Heap} {K : Frag} {mg mb : Str → Option Value} {n : Nat}

theorem se_step (T : Text prog w ad base K mg mb) (H : SE prog w ad base n) (HT : ST prog w ad base n) (HC : SC prog w ad base n) : SE prog w ad base (n + 1) := by
  intro k sc e ρ σ v σ' φ s env A E Q he F I HA q
  have HA' := HA.less (Nat.le_succ n)
  cases k with
  | zero => exact (ev_dead he).elim
  | succ k =>
    have hsh := trE_sh k sc e
    generalize trE (k + 1) sc e = pe at he hsh
    cases hsh with
    | dead => exact (ev_dead he).elim
    | const => exact se_const he I q
    | name => exact se_name T he F I q
    | and =>
      simp only [ev] at he
      rw [arm_eval_BoolOp]; exact se_and H he F I HA' q
    | or =>
      simp only [ev] at he
      rw [arm_eval_BoolOp]; exact se_or H he F I HA' q
    | bin => exact se_bin H he F I HA q
    | not => exact se_not H he F I HA q
    | neg => exact se_neg H he F I HA q
    | ite => exact se_ite H HT he F I HA q
    | dict ks vs p hc =>
      simp only [Bool.and_eq_true, beq_iff_eq, decide_eq_true_eq] at hc
      exact se_dict H hc.1.1 hc.1.2 hc.2 he F I HA q
    | comp el x px it ifs s p hc => exact se_comp_plain H HT hc he F I HA q
    | cmp l op r p hc => exact se_cmp T H (by simpa using hc) he F I HA q
    | cmp2 l o1 o2 m r p hc => exact se_cmp2 T H (by simpa [lastMarks] using hc) he F I HA q
    | callN f fp args p hc =>
      simp only [Bool.or_eq_true, Bool.not_eq_true', not_or, Bool.not_eq_true, Bool.not_eq_false, decide_eq_false_iff_not] at hc
      obtain ⟨⟨⟨hg, hd⟩, hs⟩, hl⟩ := hc
      have hg' : sc.names.lookup f = some .globalImplicit := beq_iff_eq.mp hg
      unfold trCN at he
      split at he
      · rename_i hf
        have hf' : f = ("isinstance" : Str) := beq_iff_eq.mp hf
        subst hf'
        split at he
        · rename_i a t tp
          split at he
          · rename_i hg2
            split at he
            · rename_i ty hty
              simp only [List.any_cons, List.any_nil, Bool.or_false, Bool.or_eq_false_iff] at hs
              have hd2 : (t == ("__debug__" : Str)) = false := by
                cases e : t == ("__debug__" : Str) with
                | false => rfl
                | true =>
                  rw [beq_iff_eq.mp e] at hty
                  rw [show tyOf (Str.ofString "__debug__") = none from by decide +kernel] at hty
                  cases hty
              exact se_isi T H hg' (beq_iff_eq.mp hg2) hd2 hty hs.1 he F I HA q
            · exact (ev_dead he).elim
          · exact (ev_dead he).elim
        · exact (ev_dead he).elim
      · split at he
        · rename_i hb; exact se_bi T H hg' hd hb hs he F I HA q
        · rename_i hb; exact se_new T H HC hg' hd hb hs he F I HA q
        · rename_i hb; exact se_call T H HC hg' hd hb hs he F I HA q
        · exact (ev_dead he).elim
    | meth o m ap args p hc =>
      simp only [Bool.and_eq_true, decide_eq_true_eq, Bool.not_eq_true'] at hc
      obtain ⟨⟨⟨⟨h1, h2⟩, h3⟩, h4⟩, h5⟩ := hc
      exact se_meth T H HC h1 h2 h3 h4 h5 he F I HA q
    | attr o a p hc =>
      simp only [Bool.and_eq_true] at hc
      exact se_attr T H hc.1 hc.2 he F I HA q
    | from_ => exact se_from H he F I HA q
    | upto => exact se_upto T H he F I HA q
    | sub v i p hns => exact se_sub T H hns he F I HA q
    | list es p hc =>
      simp only [Bool.or_eq_true, not_or, Bool.not_eq_true, decide_eq_false_iff_not, Nat.not_lt, decide_eq_true_eq] at hc
      exact se_list H hc.1 (by omega) he F I HA q
    | tup es a p hc =>
      simp only [Bool.or_eq_true, not_or, Bool.not_eq_true, decide_eq_false_iff_not, Nat.not_lt, decide_eq_true_eq] at hc
      exact se_tup H hc.1 (by omega) he F I HA q

/-- a test that has no road of its own -/
theorem st_plain {k : Nat} {sc : Scope} {e : Expr} {ρ : Loc} {σ : Store} {v : V} {t : Bool} {σ' : Store} {φ : List Addr} {s : Shared} {env : Env} {A : Around} {E : Value → Shared → Prop} {Q : Bool → Shared → Prop}
    (H1 : SE prog w ad base (n + 1)) (he : ev (n + 1) (trE k sc e) ρ σ = some (v, σ')) (ht : truthy v = some t) (F : Fm ad base sc ρ env φ s.heap) (I : Inv prog w ad base σ φ s.heap) (HA : AOk (n + 1) A)
    (q : ∀ s' φ', To prog w ad base φ s σ' φ' s' → Q t s') (hw : isTrue e env (eval e env) = (do let v ← eval e env; standAt e.pos; holding [v] (PySem.truthy v))) : wpAny (model prog w) A (isTrue e env (eval e env)) Q E s :=
  wpAny_isTrue_value (H1 he F I HA fun val s' φ' x r => truthy_sound r ht (q _ _ x)) hw

theorem st_step (T : Text prog w ad base K mg mb) (H : SE prog w ad base n) (HT : ST prog w ad base n) (H1 : SE prog w ad base (n + 1)) : ST prog w ad base (n + 1) := by
  intro k sc e ρ σ v t σ' φ s env A E Q he ht F I HA q
  have HA' := HA.less (Nat.le_succ n)
  have he0 := he
  cases k with
  | zero => exact (ev_dead he).elim
  | succ k =>
    have hsh := trE_sh k sc e
    generalize trE (k + 1) sc e = pe at he hsh
    cases hsh with
    | dead => exact (ev_dead he).elim
    | and =>
      simp only [ev] at he
      rw [arm_isTrue_BoolOp]; exact st_and HT he ht F I HA' q
    | or =>
      simp only [ev] at he
      rw [arm_isTrue_BoolOp]; exact st_or HT he ht F I HA' q
    | not =>
      simp only [ev, one_some, Option.map_eq_some_iff] at he
      obtain ⟨⟨a, σ1⟩, h1, t', h2, h3⟩ := he
      cases h3
      simp only [truthy] at ht
      cases ht
      exact wpAny_isTrue_Not (HT h1 h2 F I HA' fun s1 φ1 x1 => q _ _ x1)
    | ite =>
      simp only [ev, one_some] at he
      obtain ⟨⟨a, σ1⟩, h1, t', h2, h3⟩ := he
      show wpAny _ A (do if ← isTrue _ env (eval _ env) then isTrue _ env (eval _ env) else isTrue _ env (eval _ env)) Q E s
      refine wpAny_bind (HT h1 h2 F I HA' fun s1 φ1 x1 => ?_)
      cases t' with
      | true => exact HT (by simpa using h3) ht (F.to x1) x1.inv HA' fun s2 φ2 x2 => q _ _ (x1.trans x2)
      | false => exact HT (by simpa using h3) ht (F.to x1) x1.inv HA' fun s2 φ2 x2 => q _ _ (x1.trans x2)
    | cmp l op r p hc => exact st_cmp T H (by simpa using hc) he ht F I HA q
    | cmp2 l o1 o2 m r p hc => exact st_cmp2 T H (by simpa [lastMarks] using hc) he ht F I HA q
    | _ => exact st_plain H1 he0 ht F I HA q rfl
end
end Ab

end
section
set_option maxRecDepth 100000
namespace Ab
open PySem PySem.W PySem.Calls PyProof.Rows PySem.Spec

theorem bindAll_snoc {x : Nat} {v : V} : ∀ {xs : List Nat} {vs : List V} {ρ : Loc}, xs.length = vs.length → bindAll (xs ++ [x]) (vs ++ [v]) ρ = upd (bindAll xs vs ρ) x v
  | [], [], ρ, _ => rfl
  | y :: xs, u :: vs, ρ, h => by
    simp only [List.cons_append, bindAll]
    exact bindAll_snoc (by simpa using h)
  | [], _ :: _, _, h => by simp at h
  | _ :: _, [], _, h => by simp at h
theorem upd_comm {x y : Nat} {v u : V} {ρ : Loc} (h : x ≠ y) : upd (upd ρ x v) y u = upd (upd ρ y u) x v := by
  funext z
  simp only [upd]
  by_cases h1 : z = y
  · subst h1
    have : z ≠ x := fun e => h e.symm
    simp [this]
  · simp [h1]
theorem bindAll_upd {x : Nat} {v : V} : ∀ {xs : List Nat} {vs : List V} {ρ : Loc}, x ∉ xs → upd (bindAll xs vs ρ) x v = bindAll xs vs (upd ρ x v)
  | [], vs, ρ, _ => by simp [bindAll]
  | y :: xs, [], ρ, _ => by simp [bindAll]
  | y :: xs, u :: vs, ρ, h => by
    simp only [bindAll]
    simp only [List.mem_cons, not_or] at h
    rw [bindAll_upd h.2, upd_comm (Ne.symm h.1)]
theorem bindAll_rev : ∀ {xs : List Nat} {vs : List V} {ρ : Loc}, xs.Nodup → xs.length = vs.length → bindAll xs.reverse vs.reverse ρ = bindAll xs vs ρ
  | [], [], ρ, _, _ => rfl
  | x :: xs, v :: vs, ρ, hn, h => by
    obtain ⟨h1, h2⟩ := List.nodup_cons.mp hn
    have h' : xs.length = vs.length := by simpa using h
    rw [List.reverse_cons, List.reverse_cons, bindAll_snoc (by simpa using h'), bindAll_rev h2 h', bindAll_upd h1]
    rfl
  | [], _ :: _, _, _, h => by simp at h
  | _ :: _, [], _, _, h => by simp at h

theorem Reps.reverse {ad : Ads} {φ : List Addr} {h : Heap} {vs : List Value} {as : List V} (r : Reps ad φ h vs as) : Reps ad φ h vs.reverse as.reverse := by
  induction vs generalizing as with
  | nil => cases r; exact .nil
  | cons v vs ih =>
    cases r with
    | cons h r =>
      rw [List.reverse_cons, List.reverse_cons]
      exact (ih r).append (.one h)

section
variable {prog : Program} {w : World} {ad : Ads} {base : Heap} {K : Frag} {mg mb : Str → Option Value} {σ σ' : Store} {φ φ' : List Addr} {s s' : Shared} {A : Around} {E : Value → Shared → Prop} {Q : Flow → Shared → Prop}
  {n k : Nat} {sc : Scope} {ρ ρ' : Loc} {env : Env} {v : V} {pos : Pos} {X : List Addr} {fl : Fl}

/-- a tree that stores a name -/
noncomputable def StoreOf (env : Env) (x : Str) (t : Value → Sem Unit) : Prop := (∃ p, t = assign (.Name x p) env) ∨ t = bindName env x
theorem StoreOf.run {x : Str} {t : Value → Sem Unit} (h : StoreOf env x t) {val : Value} {P : Unit → Shared → Prop} (q : wpAny (model prog w) A (storeName env x val) P E s) : wpAny (model prog w) A (t val) P E s := by
  rcases h with ⟨p, rfl⟩ | rfl
  · exact wpAny_assign_Name q
  · exact wpAny_bindName q

inductive StoresOf (env : Env) : List Str → List (Value → Sem Unit) → Prop
  | nil : StoresOf env [] []
  | cons {x : Str} {t : Value → Sem Unit} {xs : List Str} {ts : List (Value → Sem Unit)} : StoreOf env x t → StoresOf env xs ts → StoresOf env (x :: xs) (t :: ts)

theorem store_name {sc : Scope} {x : Str} (h : isStoreName sc x = true) : x ∈ names ∧ (sc.names.lookup x = some .local ∨ sc.names.lookup x = some .cell) := by
  simp only [isStoreName, Bool.and_eq_true, Bool.or_eq_true, beq_iff_eq] at h
  exact ⟨known_mem h.1, h.2⟩

theorem stores_sound : ∀ {xs : List Str} {ts : List (Value → Sem Unit)} {vals : List Value} {vs : List V} {ρ : Loc} {s : Shared} {P : Unit → Shared → Prop}, StoresOf env xs ts → Reps ad φ s.heap vals vs → xs.length = vs.length →
    (∀ x ∈ xs, isStoreName sc x = true) → Fm ad base sc ρ env φ s.heap → Inv prog w ad base σ φ s.heap → (∀ s', ToX prog w ad base (owns env) φ s σ φ s' → Fm ad base sc (bindAll (xs.map nm) vs ρ) env φ s'.heap → P () s') →
    wpAny (model prog w) A (assignInOrder ts vals) P E s
  | [], ts, vals, vs, ρ, s, P, h, r, hl, hx, F, I, q => by
    cases h
    have : vs = [] := by cases vs with | nil => rfl | cons _ _ => simp at hl
    subst this
    cases r
    exact wpAny_assignInOrder_none (q s (ToX.refl I) F)
  | x :: xs, ts, vals, vs, ρ, s, P, h, r, hl, hx, F, I, q => by
    cases h with
    | cons h1 h2 =>
      cases vs with
      | nil => simp at hl
      | cons v vs =>
        cases r with
        | cons r1 r2 =>
          obtain ⟨g1, g2⟩ := store_name (hx x (by simp))
          refine wpAny_assignInOrder_more (h1.run (store_sound I F g1 g2 r1 fun s1 X1 F1 => ?_))
          refine stores_sound h2 (X1.reps r2) (by simpa using hl) (fun y hy => hx y (List.mem_cons_of_mem _ hy)) F1 X1.inv fun s2 X2 F2 => q s2 (X1.trans X2) F2

theorem target_out {t : Expr} {ts : List Expr} {xs : List Str} (h : targetNames sc (t :: ts) = some xs) : ∃ x p ys, t = .Name x p ∧ isStoreName sc x = true ∧ targetNames sc ts = some ys ∧ x :: ys = xs := by
  cases t with
  | Name x p =>
    have h : (if isStoreName sc x then (targetNames sc ts).map (x :: ·) else none) = some xs := h
    obtain ⟨hs, h⟩ := ite_some h
    obtain ⟨ys, h1, h2⟩ := Option.map_eq_some_iff.mp h
    exact ⟨x, p, ys, rfl, hs, h1, h2⟩
  | _ => exact (nn h).elim
theorem targets_ok : ∀ {ts : List Expr} {xs : List Str}, targetNames sc ts = some xs → (∀ x ∈ xs, isStoreName sc x = true) ∧ StoresOf env xs ((assignEach ts env).map (·.2)) ∧ (assignEach ts env).findIdx? (·.1) = none ∧ (assignEach ts env).length = xs.length ∧ ts.length = xs.length
  | [], xs, h => by
    cases h
    exact ⟨by simp, .nil, rfl, rfl, rfl⟩
  | t :: ts, xs, h => by
    obtain ⟨x, p, ys, rfl, hs, h1, rfl⟩ := target_out h
    obtain ⟨g1, g2, g3, g4, g5⟩ := targets_ok (ts := ts) h1
    refine ⟨fun y hy => ?_, .cons (.inl ⟨p, rfl⟩) g2, ?_, by simp [assignEach, g4], by simp [g5]⟩
    · rcases List.mem_cons.mp hy with rfl | hy
      · exact hs
      · exact g1 y hy
    · simp [assignEach, List.findIdx?_cons, g3]

theorem targets_names : ∀ {ts : List Expr} {xs : List Str} {f : Expr → Option Str}, targetNames sc ts = some xs → (∀ x p, f (.Name x p) = none ∨ f (.Name x p) = some x) → (ts.filterMap f).length = ts.length → ts.filterMap f = xs
  | [], xs, f, h, hf, hl => by
    cases h; rfl
  | t :: ts, xs, f, h, hf, hl => by
    obtain ⟨x, p, ys, rfl, _, h1, rfl⟩ := target_out h
    rcases hf x p with e | e
    · exfalso
      rw [List.filterMap_cons, e] at hl
      have := List.length_filterMap_le f ts
      simp only [List.length_cons] at hl
      omega
    · rw [List.filterMap_cons, e] at hl ⊢
      simp only [List.length_cons, Nat.add_right_cancel_iff] at hl
      rw [targets_names h1 hf hl]

theorem swapped_ok {ts es : List Expr} {x1 x2 : Nat} {p1 p2 : Pos} {xs : List Str} (h : targetNames sc ts = some xs) (hc : es.all (constantsAlone 8) = false) :
    swappedStores [.Tuple ts x1 p1] (.Tuple es x2 p2) env = pure none ∨ swappedStores [.Tuple ts x1 p1] (.Tuple es x2 p2) env = pure (some xs) := by
  unfold swappedStores
  dsimp only
  split
  · exact .inl rfl
  · split
    · exact .inl rfl
    · split
      · exact .inl rfl
      · rename_i hn
        split
        · exact .inl rfl
        · simp only [hc, Bool.false_eq_true, if_false]
          refine .inr (congrArg (fun z => (pure (some z) : Sem (Option (List Str)))) ?_)
          simp only [Bool.or_eq_true, bne_iff_ne, ne_eq, not_or, Decidable.not_not] at hn
          refine targets_names h (fun x p => ?_) hn.1
          dsimp only
          split
          · exact .inr rfl
          · exact .inl rfl

theorem swapsSole_tuple {ts : List Expr} {x1 : Nat} {p1 : Pos} {e : Expr} {l : Nat} (h : isCompE e = false) : swapsWithSole [.Tuple ts x1 p1] e l env = pure false := by
  cases e <;> first | rfl | cases h
theorem swapsNot {e : Expr} {t : Option Expr} {l : Nat} (h : isCompE e = false) : swapsWith e t l env = pure false := by
  cases e <;> first | rfl | cases h

theorem evs_rep (H : SE prog w ad base n) {es : List Expr} {x2 : Nat} {p2 : Pos} {vs : List V} (hs : es.any isStarE = false) (h1 : evs (fun e σ => ev n e ρ σ) (es.map (trE k sc)) σ = some (vs, σ')) (F : Fm ad base sc ρ env φ s.heap) (I : Inv prog w ad base σ φ s.heap) (HA : AOk n A) {P : Value → Shared → Prop}
    (hl : es.length ≤ 30) (q : Ret prog w ad base φ s σ' (.tup vs) P) : wpAny (model prog w) A (eval (.Tuple es x2 p2) env) P E s := by
  refine wpAny_Tuple (ses H h1 hs F I HA fun vals s1 φ1 x1 r1 => ⟨?_, (q.after x1).newTup (tk := s1.toks) x1.inv r1⟩)
  have h2 := evs_length h1
  rw [r1.length, h2, List.length_map]; exact le30 hl

theorem ss_swap (H : SE prog w ad base n) {ts es : List Expr} {x1 x2 : Nat} {p1 p2 : Pos} {xs : List Str} (h : targetNames sc ts = some xs) (hnd : xs.Nodup) (hlen : es.length = xs.length) (hl30 : es.length ≤ 30) (hs : es.any isStarE = false) (hc : es.all (constantsAlone 8) = false)
    (he : exec (n + 1) (.swap (xs.map nm) (es.map (trE k sc))) ρ σ = some (fl, ρ', σ')) (F : Fm ad base sc ρ env φ s.heap) (I : Inv prog w ad base σ φ s.heap) (HA : AOk (n + 1) A)
    (q : ∀ s' φ' f, ToX prog w ad base (owns env) φ s σ' φ' s' → Fm ad base sc ρ' env φ' s'.heap → FlIs ad fl φ' s' f → Q f s') :
    wpAny (model prog w) A (PySem.exec (.Assign [.Tuple ts x1 p1] (.Tuple es x2 p2) pos) env) Q E s := by
  have HA' := HA.less (Nat.le_succ n)
  simp only [exec, one_some] at he
  obtain ⟨⟨vs, σ1⟩, h1, h3⟩ := he
  cases h3
  obtain ⟨g1, g2, g3, g4, g5⟩ := targets_ok (env := env) h
  have hvl : xs.length = vs.length := by rw [evs_length h1, List.length_map, hlen]
  have hnm : (xs.map nm).Nodup := List.pairwise_map.mpr (List.Pairwise.imp_of_mem (fun {a b} ha hb hne e => hne (nm_inj (store_name (g1 a ha)).1 (store_name (g1 b hb)).1 e)) hnd)
  rcases swapped_ok (env := env) (x1 := x1) (x2 := x2) (p1 := p1) (p2 := p2) h hc with hw | hw
  · refine wpAny_Assign_stores (evs_rep H hs h1 F I HA' hl30 fun val s1 φ1 y1 r1 => ?_) (swapsSole_tuple rfl) hw
    cases r1 with
    | tup ht rr =>
      rename_i a items m
      have hsz := rr.size
      refine wpAny_assign_Tuple (x1 := x1) HA.1 ⟨_, ht, rfl, _, rfl⟩ (by rw [g4, hsz, hvl]) g3 fun h' hx => ?_
      have hk : ∀ a o, s1.heap.get? a = some o → h'.get? a = some o := fun a o e => hx a o (mem_lt e) e
      have y2 := To.kept (tk := s1.toks) (h' := h') y1.inv hk
      refine stores_sound g2 (y2.reps rr) hvl g1 (F.to (y1.trans y2)) y2.inv fun s3 X3 F3 => ?_
      exact q _ _ _ ((F.wide (y1.trans y2)).trans X3) F3 rfl
  · refine Assign_Tuple_swapped (evs_rep H hs h1 F I HA' hl30 fun val s1 φ1 y1 r1 => ?_) (swapsSole_tuple rfl) hw
    cases r1 with
    | tup ht rr =>
      rename_i a items m
      have hsz := rr.size
      have hn : xs.length = items.size := by rw [hsz, hvl]
      rw [hn]
      refine wpAny_unpackItems_tuple HA.1 ⟨_, ht, rfl, _, rfl⟩ fun h' hx => ?_
      have hk : ∀ a o, s1.heap.get? a = some o → h'.get? a = some o := fun a o e => hx a o (mem_lt e) e
      have y2 := To.kept (tk := s1.toks) (h' := h') y1.inv hk
      have hst : StoresOf env xs.reverse (xs.reverse.map fun n => bindName env n) := by
        have : ∀ l : List Str, StoresOf env l (l.map fun n => bindName env n) := fun l => by
          induction l with
          | nil => exact .nil
          | cons z l ih => exact .cons (.inr rfl) ih
        exact this _
      refine stores_sound (sc := sc) hst (y2.reps rr).reverse (by simpa using hvl) (fun x hx => g1 x (by simpa using hx)) (F.to (y1.trans y2)) y2.inv fun s3 X3 F3 => ?_
      rw [List.map_reverse, bindAll_rev hnm (by simpa using hvl)] at F3
      exact q _ _ _ ((F.wide (y1.trans y2)).trans X3) F3 rfl

theorem ss_unpack (H : SE prog w ad base n) {ts : List Expr} {e : Expr} {x1 : Nat} {p1 : Pos} {xs : List Str} (h : targetNames sc ts = some xs) (hc : isCompE e = false) (hnt : ∀ a b c, e ≠ .Tuple a b c)
    (he : exec (n + 1) (.unpack (xs.map nm) (trE k sc e)) ρ σ = some (fl, ρ', σ')) (F : Fm ad base sc ρ env φ s.heap) (I : Inv prog w ad base σ φ s.heap) (HA : AOk (n + 1) A)
    (q : ∀ s' φ' f, ToX prog w ad base (owns env) φ s σ' φ' s' → Fm ad base sc ρ' env φ' s'.heap → FlIs ad fl φ' s' f → Q f s') :
    wpAny (model prog w) A (PySem.exec (.Assign [.Tuple ts x1 p1] e pos) env) Q E s := by
  have HA' := HA.less (Nat.le_succ n)
  simp only [exec, one_some] at he
  obtain ⟨⟨v, σ1⟩, h1, h3⟩ := he
  obtain ⟨g1, g2, g3, g4, g5⟩ := targets_ok (env := env) h
  have hw : swappedStores [.Tuple ts x1 p1] e env = pure none := by
    cases e <;> first | rfl | exact absurd rfl (hnt _ _ _)
  cases v with
  | tup vs =>
    simp only at h3
    split at h3
    · rename_i hl
      cases h3
      have hvl : xs.length = vs.length := by simpa using hl.symm
      refine wpAny_Assign_stores (H h1 F I HA' fun val s1 φ1 y1 r1 => ?_) (swapsSole_tuple hc) hw
      cases r1 with
      | tup ht rr =>
        rename_i a items m
        have hsz := rr.size
        refine wpAny_assign_Tuple (x1 := x1) HA.1 ⟨_, ht, rfl, _, rfl⟩ (by rw [g4, hsz, hvl]) g3 fun h' hx => ?_
        have hk : ∀ a o, s1.heap.get? a = some o → h'.get? a = some o := fun a o e => hx a o (mem_lt e) e
        have y2 := To.kept (tk := s1.toks) (h' := h') y1.inv hk
        refine stores_sound g2 (y2.reps rr) hvl g1 (F.to (y1.trans y2)) y2.inv fun s3 X3 F3 => ?_
        exact q _ _ _ ((F.wide (y1.trans y2)).trans X3) F3 rfl
    · cases h3
  | _ => simp at h3
end
end Ab

end
section
set_option maxRecDepth 100000
namespace Ab
open PySem PySem.W PySem.Calls PyProof.Rows PySem.Spec

section
variable {prog : Program} {w : World} {ad : Ads} {base : Heap} {K : Frag} {mg mb : Str → Option Value} {σ σ' : Store} {φ φ' : List Addr} {s s' : Shared} {A : Around} {E : Value → Shared → Prop} {Q : Flow → Shared → Prop}
  {n k : Nat} {sc : Scope} {ρ ρ' : Loc} {env : Env} {v : V} {pos : Pos} {X : List Addr} {fl : Fl}

/-- what is to be shown behind a statement -/
noncomputable abbrev Then (prog : Program) (w : World) (ad : Ads) (base : Heap) (sc : Scope) (env : Env) (φ : List Addr) (s : Shared) (fl : Fl) (ρ' : Loc) (σ' : Store) (Q : Flow → Shared → Prop) : Prop :=
  ∀ s' φ' f, ToX prog w ad base (owns env) φ s σ' φ' s' → Fm ad base sc ρ' env φ' s'.heap → FlIs ad fl φ' s' f → Q f s'

theorem Then.after {σ1 : Store} {φ1 : List Addr} {s1 : Shared} (x : ToX prog w ad base (owns env) φ s σ1 φ1 s1) (q : Then prog w ad base sc env φ s fl ρ' σ' Q) : Then prog w ad base sc env φ1 s1 fl ρ' σ' Q :=
  fun s' φ' f y F h => q s' φ' f (x.trans y) F h

theorem ss_ret (H : SE prog w ad base n) {e : Expr} (he : exec (n + 1) (.ret (trE k sc e)) ρ σ = some (fl, ρ', σ')) (F : Fm ad base sc ρ env φ s.heap) (I : Inv prog w ad base σ φ s.heap) (HA : AOk (n + 1) A)
    (q : Then prog w ad base sc env φ s fl ρ' σ' Q) : wpAny (model prog w) A (PySem.exec (.Return (some e) pos) env) Q E s := by
  simp only [exec, one_some] at he
  obtain ⟨⟨v, σ1⟩, h1, h3⟩ := he
  cases h3
  exact wpAny_Return_some (H h1 F I (HA.less (Nat.le_succ n)) fun val s1 φ1 x1 r1 => q _ _ _ (F.wide x1) (F.to x1) ⟨val, rfl, r1⟩)

theorem ss_expr (H : SE prog w ad base n) {e : Expr} (hc : isCompE e = false) (he : exec (n + 1) (.expr (trE k sc e)) ρ σ = some (fl, ρ', σ')) (F : Fm ad base sc ρ env φ s.heap) (I : Inv prog w ad base σ φ s.heap) (HA : AOk (n + 1) A)
    (q : Then prog w ad base sc env φ s fl ρ' σ' Q) : wpAny (model prog w) A (PySem.exec (.Expr e pos) env) Q E s := by
  simp only [exec, one_some] at he
  obtain ⟨⟨v, σ1⟩, h1, h3⟩ := he
  cases h3
  exact wpAny_Expr_any (H h1 F I (HA.less (Nat.le_succ n)) fun val s1 φ1 x1 r1 => q _ _ _ (F.wide x1) (F.to x1) rfl) (by unfold interactive; rw [F.fn]; rfl) (swapsNot hc)

theorem ss_setItem (H : SE prog w ad base n) {o i e : Expr} {p1 : Pos} (hc : isCompE e = false) (he : exec (n + 1) (.setItem (trE k sc o) (trE k sc i) (trE k sc e)) ρ σ = some (fl, ρ', σ')) (F : Fm ad base sc ρ env φ s.heap) (I : Inv prog w ad base σ φ s.heap) (HA : AOk (n + 1) A)
    (q : Then prog w ad base sc env φ s fl ρ' σ' Q) : wpAny (model prog w) A (PySem.exec (.Assign [.Subscript o i p1] e pos) env) Q E s := by
  have HA' := HA.less (Nat.le_succ n)
  simp only [exec, one_some, Option.map_eq_some_iff] at he
  obtain ⟨⟨v, σ1⟩, h1, ⟨a, σ2⟩, h2, ⟨b, σ3⟩, h3, σ4, h4, h5⟩ := he
  cases h5
  refine wpAny_Assign_Subscript (H h1 F I HA' fun val s1 φ1 x1 r1 => H h2 (F.to x1) x1.inv HA' fun val2 s2 φ2 x2 r2 => H h3 (F.to (x1.trans x2)) x2.inv HA' fun val3 s3 φ3 x3 r3 => ?_) (swapsNot hc)
  refine setItemOp_sound x3.inv (x3.rep r2) r3 ((x2.trans x3).rep r1) h4 fun s4 x4 => ?_
  have x := ((x1.trans x2).trans x3).trans x4
  exact q _ _ _ (F.wide x) (F.to x) rfl

theorem ss_setAttr (T : Text prog w ad base K mg mb) (H : SE prog w ad base n) {o e : Expr} {a : Str} {p1 : Pos} (ha : okAttr a = true) (hc : isCompE e = false) (he : exec (n + 1) (.setAttr (trE k sc o) (nm a) (trE k sc e)) ρ σ = some (fl, ρ', σ')) (F : Fm ad base sc ρ env φ s.heap) (I : Inv prog w ad base σ φ s.heap) (HA : AOk (n + 1) A)
    (q : Then prog w ad base sc env φ s fl ρ' σ' Q) : wpAny (model prog w) A (PySem.exec (.Assign [.Attribute o a p1] e pos) env) Q E s := by
  have HA' := HA.less (Nat.le_succ n)
  simp only [exec, one_some, Option.map_eq_some_iff] at he
  obtain ⟨⟨v, σ1⟩, h1, ⟨b, σ2⟩, h2, σ4, h4, h5⟩ := he
  cases h5
  refine plainObj_wpAny_Assign_Attribute (H h1 F I HA' fun val s1 φ1 x1 r1 => H h2 (F.to x1) x1.inv HA' fun val2 s2 φ2 x2 r2 => ?_) (swapsNot hc)
  refine setAttrOp_sound T x2.inv ha r2 (x2.rep r1) h4 fun s4 x4 => ?_
  have x := (x1.trans x2).trans x4
  exact q _ _ _ (F.wide x) (F.to x) rfl

theorem swaps_name {e : Expr} {x : Str} {p : Pos} {l : Nat} : ∃ b, swapsWith e (some (.Name x p)) l env = pure b ∧ (b = true → isCompE e = true ∧ env.kindOf x = some .local) := by
  cases e with
  | ListComp el gens sc' p' =>
    refine ⟨env.blockKind == .function && env.kindOf x == some .local && p.line == p'.line && !(sc'.names.any fun (n, k) => n == x && (k == .local || k == .cell)), rfl, fun h => ?_⟩
    simp only [Bool.and_eq_true, beq_iff_eq] at h
    exact ⟨rfl, h.1.1.2⟩
  | SetComp el gens sc' p' =>
    refine ⟨env.blockKind == .function && env.kindOf x == some .local && p.line == p'.line && !(sc'.names.any fun (n, k) => n == x && (k == .local || k == .cell)), rfl, fun h => ?_⟩
    simp only [Bool.and_eq_true, beq_iff_eq] at h
    exact ⟨rfl, h.1.1.2⟩
  | DictComp el el2 gens sc' p' =>
    refine ⟨env.blockKind == .function && env.kindOf x == some .local && p.line == p'.line && !(sc'.names.any fun (n, k) => n == x && (k == .local || k == .cell)), rfl, fun h => ?_⟩
    simp only [Bool.and_eq_true, beq_iff_eq] at h
    exact ⟨rfl, h.1.1.2⟩
  | _ => exact ⟨false, rfl, fun h => by cases h⟩

theorem comp_inv {e el : Expr} {gens : List Comprehension} {scope : Scope} {p' : Pos} {r : V × Store} (h : ev n (trE (k + 1) sc e) ρ σ = some r) (heq : e = .ListComp el gens scope p') :
    ∃ x px it ifs, gens = [⟨.Name x px, it, ifs, 0⟩] ∧ compOk sc scope x = true ∧ ev n (.comp (nm x) (trE k sc it) (ifs.map (trE k scope)) (trE k scope el)) ρ σ = some r := by
  have hsh := trE_sh k sc e
  generalize trE (k + 1) sc e = pe at h hsh
  subst heq
  cases hsh with
  | dead => exact (ev_dead h).elim
  | comp _ x px it ifs _ _ hc => exact ⟨_, _, _, _, rfl, hc, h⟩

theorem ss_assign (H : SE prog w ad base n) (Hm : ∀ m, n = m + 1 → SE prog w ad base m ∧ ST prog w ad base m) {e : Expr} {x : Str} {p1 : Pos} (hx : isStoreName sc x = true) (he : exec (n + 1) (.assign (nm x) (trE k sc e)) ρ σ = some (fl, ρ', σ')) (F : Fm ad base sc ρ env φ s.heap) (I : Inv prog w ad base σ φ s.heap) (HA : AOk (n + 1) A)
    (q : Then prog w ad base sc env φ s fl ρ' σ' Q) : wpAny (model prog w) A (PySem.exec (.Assign [.Name x p1] e pos) env) Q E s := by
  have HA' := HA.less (Nat.le_succ n)
  obtain ⟨g1, g2⟩ := store_name hx
  simp only [exec, one_some] at he
  obtain ⟨⟨v, σ1⟩, h1, h5⟩ := he
  cases h5
  obtain ⟨b, hb, hb2⟩ := swaps_name (env := env) (e := e) (x := x) (p := p1) (l := pos.line)
  cases b with
  | false =>
    refine wpAny_Assign_Name (H h1 F I HA' fun val s1 φ1 x1 r1 => ?_) hb
    exact store_sound x1.inv (F.to x1) g1 g2 r1 fun s2 X2 F2 => q _ _ _ ((F.wide x1).trans X2) F2 rfl
  | true =>
    obtain ⟨hce, hloc⟩ := hb2 rfl
    -- the list goes straight into the name
    cases k with
    | zero => exact (ev_dead h1).elim
    | succ k =>
      cases e with
      | ListComp el gens scope p' =>
        obtain ⟨y, py, it, ifs, rfl, hok, h2⟩ := comp_inv h1 rfl
        cases n with
        | zero => simp [ev] at h2
        | succ m =>
          obtain ⟨H0, HT0⟩ := Hm m rfl
          rw [exec_Assign_Name_used _ _ _ _ hb]
          refine wpAny_bind (wpAny_standAt (wpAny_bind ?_))
          show wpAny _ A (do let _ ← comprehension (.ListComp el [⟨.Name y py, it, ifs, 0⟩] scope p') scope env _ (newList []) false (eval it env) (some (assign (.Name x p1) env))) _ _ s
          refine wpAny_bind (wpAny_mono (se_comp (use := some (assign (.Name x p1) env)) (Q := fun _ s' => Q .next s') H0 HT0 hok h2 F I HA' fun D C s' φ' vs items σ2 X hv hσ hD hC hDC hDφ hCφ hDl hr hNs => ?_) (fun _ s' hq => wpAny_pure (wpAny_pure hq)) fun _ _ e => e)
          subst hv hσ
          obtain ⟨mC, hmC⟩ := hNs
          obtain ⟨oC, es, ep, eC, hdC, _⟩ := id hmC
          obtain ⟨nD, eD⟩ := id hDl
          have hsD : ¬ Rigid { cls := .type "list", data := .seq items nD } := fun z => by rcases z.1 with z | z | ⟨c, z⟩ <;> simp at z
          have X3 := ToX.late (tk := s'.toks) (c := .list vs) (h' := s'.heap) I X hD eD (by simp) hDφ hsD (fun a o _ e => e) ⟨_, _, eD, hr.mono (fun a o _ e => e) (List.prefix_append _ _)⟩
          have F3 : Fm ad base sc ρ env (φ' ++ [D]) s'.heap := F.to X3
          have r3 : Rep ad (φ' ++ [D]) s'.heap (.ref D) (.ref σ2.length) := .ref (by rw [← X.inv.len]; simp)
          show wpAny _ A (assign (.Name x p1) env (.ref D)) _ _ _
          refine wpAny_assign_Name (store_sound X3.inv F3 g1 g2 r3 fun s4 X4 F4 => ?_)
          -- the comprehension's own names go
          have hCs : C ∉ owns env := fun hm => by obtain ⟨o, e⟩ := F.owns_here C hm; rw [hC] at e; cases e
          have hCn : C ∉ φ' ++ [D] := fun hm => by
            rcases List.mem_append.mp hm with z | z
            · exact hCφ z
            · exact hDC (List.mem_singleton.mp z).symm
          have eC4 : s4.heap.get? C = some oC := X4.keep C oC hCn hCs eC
          have hm4 : s4.heap.Ns C mC := by obtain ⟨o, a, b, c, d⟩ := hmC; exact ⟨o, a, b, X4.keep C o hCn hCs c, d⟩
          refine ⟨mC, hm4, fun h' hs' => ?_⟩
          have hk : ∀ a o, a ≠ C → s4.heap.get? a = some o → h'.get? a = some o := fun a o hne e => hs'.extBut a o hne e
          have y5 : ToX prog w ad base [C] (φ' ++ [D]) s4 (σ2 ++ [.list vs]) (φ' ++ [D]) { s4 with heap := h' } := ToX.place (tk := s4.toks) X4.inv (by simp) hCn (I.new hC).1 eC4 (soft_dict hdC) hk
          have X5 := ToX.close ((F.wide X3).trans X4) y5 (fun a ha => by rw [List.mem_singleton.mp ha]; exact hC) F4.owns_here
          refine q _ _ _ X5 (F4.place eC4 (soft_dict hdC) (fun e => hCs (by rw [← e]; exact List.mem_cons_self)) (fun y c hy e => hCs (by rw [← e]; exact List.mem_cons_of_mem _ (List.mem_map.mpr ⟨_, hy, rfl⟩))) hk) rfl
      | SetComp a b c d => exact (ev_dead h1).elim
      | DictComp a b c d e => exact (ev_dead h1).elim
      | _ => cases hce
end
end Ab

end
section
set_option maxRecDepth 100000
namespace Ab
open PySem PySem.W PySem.Calls PyProof.Rows PySem.Spec

section
variable {prog : Program} {w : World} {ad : Ads} {base : Heap} {K : Frag} {mg mb : Str → Option Value} {σ σ' : Store} {φ φ' : List Addr} {s s' : Shared} {A : Around} {E : Value → Shared → Prop} {Q : Flow → Shared → Prop}
  {n k : Nat} {sc : Scope} {ρ ρ' : Loc} {env : Env} {v : V} {pos : Pos} {X : List Addr} {fl : Fl}

theorem ToX.more {Y : List Addr} (x : ToX prog w ad base X φ s σ' φ' s') (sub : ∀ a ∈ X, a ∈ Y) (ex : ∀ a ∈ Y, ∃ o, s.heap.get? a = some o) : ToX prog w ad base Y φ s σ' φ' s' :=
  ⟨x.gens, x.os, fun a o ha hy e => x.keep a o ha (fun hm => hy (sub a hm)) e, x.rigid, x.pre, fun a ha => (x.new a ha).imp_right fun q => ⟨q.1, fun hm => by obtain ⟨o, e⟩ := ex a hm; rw [q.1] at e; cases e⟩, x.inv⟩

theorem ToX.close2 {Y : List Addr} {σ1 σ2 : Store} {φ1 φ2 : List Addr} {s1 s2 : Shared} (x : ToX prog w ad base X φ s σ1 φ1 s1) (y : ToX prog w ad base Y φ1 s1 σ2 φ2 s2) (hY : ∀ a ∈ Y, a ∈ X ∨ s.heap.get? a = none) (hX : ∀ a ∈ X, ∃ o, s1.heap.get? a = some o) :
    ToX prog w ad base X φ s σ2 φ2 s2 where
  gens := y.gens.trans x.gens
  os := y.os.trans x.os
  keep := fun a o ha hx e => y.keep a o (fun hm => (x.new a hm).elim ha fun q => by rw [q.1] at e; cases e) (fun hm => by
    rcases hY a hm with z | z
    · exact hx z
    · rw [z] at e; cases e) (x.keep a o ha hx e)
  rigid := fun a o ho e => y.rigid a o ho (x.rigid a o ho e)
  pre := x.pre.trans y.pre
  new := fun a ha => by
    rcases y.new a ha with q | ⟨q, hx⟩
    · exact x.new a q
    · by_cases hm : a ∈ φ
      · exact .inl hm
      · have hxX : a ∉ X := fun hm2 => by obtain ⟨o, e⟩ := hX a hm2; rw [q] at e; cases e
        refine .inr ⟨?_, hxX⟩
        cases e : s.heap.get? a with
        | none => rfl
        | some o => rw [x.keep a o hm hxX e] at q; cases q
  inv := y.inv

theorem sss (HS : SS prog w ad base n) : ∀ {b : List Stmt} {ρ : Loc} {σ : Store} {φ : List Addr} {s : Shared}, execs (exec n) (b.map (trS k sc)) ρ σ = some (fl, ρ', σ') → Fm ad base sc ρ env φ s.heap → Inv prog w ad base σ φ s.heap → AOk n A →
    Then prog w ad base sc env φ s fl ρ' σ' Q → wpAny (model prog w) A (PySem.execs b env) Q E s
  | [], ρ, σ, φ, s, he, F, I, HA, q => by
    simp only [List.map_nil, execs] at he
    cases he
    exact wpAny_execs_nil (q _ _ _ (ToX.refl I) F rfl)
  | st :: r, ρ, σ, φ, s, he, F, I, HA, q => by
    simp only [List.map_cons, execs] at he
    split at he
    · rename_i ρ1 σ1 h1
      refine wpAny_execs_cons (HS h1 F I HA fun s1 φ1 f X1 F1 hf => ?_)
      have hf' : f = .next := hf
      subst hf'
      exact sss HS he F1 X1.inv HA (q.after X1)
    · rename_i v1 ρ1 σ1 h1
      cases he
      refine wpAny_execs_cons (HS h1 F I HA fun s1 φ1 f X1 F1 hf => ?_)
      obtain ⟨val, hfv, hr⟩ := hf
      subst hfv
      exact q _ _ _ X1 F1 ⟨val, rfl, hr⟩
    · cases he

theorem ss_if (H : SE prog w ad base n) (HT : ST prog w ad base n) (HS : SS prog w ad base n) {t : Expr} {b o : List Stmt} {k2 : Nat} (he : exec (n + 1) (.ite (trE k2 sc t) (b.map (trS k sc)) (o.map (trS k sc))) ρ σ = some (fl, ρ', σ')) (F : Fm ad base sc ρ env φ s.heap) (I : Inv prog w ad base σ φ s.heap) (HA : AOk (n + 1) A)
    (q : Then prog w ad base sc env φ s fl ρ' σ' Q) : wpAny (model prog w) A (PySem.exec (.If t b o pos) env) Q E s := by
  have HA' := HA.less (Nat.le_succ n)
  simp only [exec, one_some] at he
  obtain ⟨⟨a, σ1⟩, h1, t', h2, h3⟩ := he
  refine wpAny_If (HT h1 h2 F I HA' fun s1 φ1 x1 => ?_)
  cases t' with
  | true => exact sss HS (by simpa using h3) (F.to x1) x1.inv HA' (q.after (F.wide x1))
  | false => exact sss HS (by simpa using h3) (F.to x1) x1.inv HA' (q.after (F.wide x1))

noncomputable def sWhTest (n k : Nat) (sc : Scope) (t : Expr) (ρ : Loc) (σ : Store) : Option (Bool × Store) := one? (ev n (trE k sc t) ρ σ) fun (a, σ) => (truthy a).map (·, σ)
noncomputable def sWhDo (n k : Nat) (sc : Scope) (b : List Stmt) (ρ : Loc) (σ : Store) : Option (Fl × Loc × Store) := execs (exec n) (b.map (trS k sc)) ρ σ
theorem ss_while (H : SE prog w ad base n) (HT : ST prog w ad base n) (HS : SS prog w ad base n) {t : Expr} {b : List Stmt} {k2 : Nat} (he : exec (n + 1) (.while_ (trE k2 sc t) (b.map (trS k sc))) ρ σ = some (fl, ρ', σ')) (F : Fm ad base sc ρ env φ s.heap) (I : Inv prog w ad base σ φ s.heap) (HA : AOk (n + 1) A)
    (q : Then prog w ad base sc env φ s fl ρ' σ' Q) : wpAny (model prog w) A (PySem.exec (.While t b [] pos) env) Q E s := by
  have HA' := HA.less (Nat.le_succ n)
  simp only [exec] at he
  refine wpAny_While (codeAny_whileLoop (fun m s' => ∃ φk σk ρk, ToX prog w ad base (owns env) φ s σk φk s' ∧
    whileLoop (sWhTest n k2 sc t) (sWhDo n k sc b) m ρk σk = some (fl, ρ', σ') ∧ Fm ad base sc ρk env φk s'.heap) ?_ laps ⟨φ, σ, ρ, ToX.refl I, he, F⟩)
  intro m s' hI
  obtain ⟨φk, σk, ρk, y, hr, Fk⟩ := hI
  cases m with
  | zero => simp [whileLoop] at hr
  | succ m =>
    simp only [whileLoop] at hr
    split at hr
    · rename_i σ1 h1
      simp only [sWhTest, one_some, Option.map_eq_some_iff] at h1
      obtain ⟨⟨a, σ2⟩, h2, t', h3, h4⟩ := h1
      cases h4
      refine HT h2 h3 Fk y.inv HA' fun s1 φ1 x1 => ?_
      simp only [if_true]
      have y1 := y.trans (Fk.wide x1)
      split at hr
      · rename_i ρ3 σ3 h5
        refine sss HS h5 (Fk.to x1) x1.inv HA' fun s2 φ2 f X2 F2 hf => ?_
        have hf' : f = .next := hf
        subst hf'
        exact ⟨m, Nat.lt_succ_self _, φ2, σ3, ρ3, y1.trans X2, hr, F2⟩
      · rename_i r ρ3 σ3 h5
        cases hr
        refine sss HS h5 (Fk.to x1) x1.inv HA' fun s2 φ2 f X2 F2 hf => ?_
        obtain ⟨val, hfv, hrp⟩ := hf
        subst hfv
        exact q _ _ _ (y1.trans X2) F2 ⟨val, rfl, hrp⟩
      · cases hr
    · rename_i σ1 h1
      cases hr
      simp only [sWhTest, one_some, Option.map_eq_some_iff] at h1
      obtain ⟨⟨a, σ2⟩, h2, t', h3, h4⟩ := h1
      cases h4
      refine HT h2 h3 Fk y.inv HA' fun s1 φ1 x1 => ?_
      simp only [Bool.false_eq_true, if_false]
      exact wpAny_execs_nil (q _ _ _ (y.trans (Fk.wide x1)) (Fk.to x1) rfl)
    · cases hr

noncomputable def sForOne (n k : Nat) (sc : Scope) (b : List Stmt) (x : Nat) (v : V) (ρ : Loc) (σ : Store) : Option (Fl × Loc × Store) := execs (exec n) (b.map (trS k sc)) (upd ρ x v) σ
/-- what holds between two turns of a loop -/
inductive FLI (prog : Program) (w : World) (ad : Ads) (base : Heap) (env : Env) (X : List Addr) (it : Addr) (φ : List Addr) (s : Shared) (sc : Scope) (src : V) (run : Nat → Nat → Loc → Store → Prop) (t : Nat) (s' : Shared) : Prop
  | mk {k : Nat} {φ' : List Addr} {σ : Store} {ρ' : Loc} (y : ToX prog w ad base X φ s σ φ' s') (hr : run t k ρ' σ) (hi : ItAt ad φ' s'.heap it k src) (hiφ : it ∉ φ') (F : Fm ad base sc ρ' env φ' s'.heap) : FLI prog w ad base env X it φ s sc src run t s'
theorem ss_for (H : SE prog w ad base n) (HS : SS prog w ad base n) {x : Str} {px : Pos} {it : Expr} {b : List Stmt} {k2 : Nat} (hx : isStoreName sc x = true) (he : exec (n + 1) (.for_ (nm x) (trE k2 sc it) (b.map (trS k sc))) ρ σ = some (fl, ρ', σ')) (F : Fm ad base sc ρ env φ s.heap) (I : Inv prog w ad base σ φ s.heap) (HA : AOk (n + 1) A)
    (q : Then prog w ad base sc env φ s fl ρ' σ' Q) : wpAny (model prog w) A (PySem.exec (.For (.Name x px) it b [] pos) env) Q E s := by
  have HA' := HA.less (Nat.le_succ n)
  obtain ⟨g1, g2⟩ := store_name hx
  simp only [exec, one_some] at he
  obtain ⟨⟨src, σ1⟩, h1, h2⟩ := he
  obtain ⟨z, hz⟩ : ∃ z, itemAt σ1 src 0 = some z := by
    have h2' := h2
    unfold laps forLoop at h2'
    cases hat : itemAt σ1 src 0 with
    | none => rw [hat] at h2'; simp at h2'
    | some z => exact ⟨z, rfl⟩
  refine wpAny_For (H h1 F I HA' fun val s1 φ1 x1 r1 => iter_start x1.inv r1 0 hz fun I0 h2h hitn hits hk2 hitφ hit0 => ?_) (not_set h1)
  have x2 : To prog w ad base φ1 s1 σ1 φ1 { s1 with heap := h2h } := To.kept (tk := s1.toks) x1.inv hk2
  have x02 := x1.trans x2
  have F2 := F.to x02
  have hbit := (x1.inv.new hitn).1
  have hit_s : s.heap.get? I0 = Option.none := x1.none hitn
  have hio : I0 ∉ owns env := fun hm => by obtain ⟨o, e⟩ := F.owns_here _ hm; rw [hit_s] at e; cases e
  -- the end, told of the state ahead
  have fin : ∀ s' φ' f, ToX prog w ad base (I0 :: owns env) φ1 { s1 with heap := h2h } σ' φ' s' → Fm ad base sc ρ' env φ' s'.heap → FlIs ad fl φ' s' f → Q f s' := fun s' φ' f y Fe hf =>
    q _ _ _ (ToX.close2 (F.wide x02) y (fun a ha => by
      rcases List.mem_cons.mp ha with rfl | ha
      · exact .inr hit_s
      · exact .inl ha) F2.owns_here) Fe hf
  refine codeAny_forLoop (FLI prog w ad base env (I0 :: owns env) I0 φ1 { s1 with heap := h2h } sc src fun m k' ρk σk => forLoop src (sForOne n k sc b (nm x)) m k' ρk σk = some (fl, ρ', σ')) ?_ laps
    (.mk (ToX.refl x2.inv) h2 hit0 hitφ F2)
  intro m s' hI
  obtain @⟨k', φk, σk, ρk, y, hr, hi, hiφ, Fk⟩ := hI
  have Ik := y.inv
  obtain ⟨oi, hoi, hsi⟩ := hi.soft
  cases m with
  | zero => simp [forLoop] at hr
  | succ m =>
    simp only [forLoop] at hr
    cases hat : itemAt σk src k' with
    | none => rw [hat] at hr; cases hr
    | some r =>
      rw [hat] at hr
      refine iter_next HA.1 Ik hi hiφ hat (fun v hv val h' tk hk hi' rv => ?_) (fun hv h' tk hk => ?_)
      · subst hv
        simp only at hr
        have y1 : ToX prog w ad base (I0 :: owns env) φk s' σk φk { s' with heap := h', toks := tk } := ToX.place Ik (by simp) hiφ hbit hoi hsi hk
        have F1 : Fm ad base sc ρk env φk h' := Fk.place hoi hsi (fun e => hio (by rw [← e]; exact List.mem_cons_self)) (fun a c hc e => hio (by rw [← e]; exact List.mem_cons_of_mem _ (List.mem_map.mpr ⟨_, hc, rfl⟩))) hk
        have ex1 : ∀ a ∈ I0 :: owns env, ∃ o, ({ s' with heap := h', toks := tk } : Shared).heap.get? a = some o := fun a ha => by
          rcases List.mem_cons.mp ha with rfl | ha
          · obtain ⟨o, e, _⟩ := hi'.soft; exact ⟨o, e⟩
          · exact Fm.owns_here (s := { s' with heap := h', toks := tk }) F1 a ha
        refine wpAny_assign_Name (store_sound y1.inv F1 g1 g2 rv fun s2 X2 Fs2 => ?_)
        have X2' := X2.more (Y := I0 :: owns env) (fun a ha => List.mem_cons_of_mem _ ha) ex1
        have hi2 : ItAt ad φk s2.heap I0 (k' + 1) src := hi'.mono X2.rigid (fun o e => X2.keep _ o hiφ hio e) (List.prefix_refl _)
        have ex2 : ∀ a ∈ I0 :: owns env, ∃ o, s2.heap.get? a = some o := fun a ha => by
          rcases List.mem_cons.mp ha with rfl | ha
          · obtain ⟨o, e, _⟩ := hi2.soft; exact ⟨o, e⟩
          · exact Fs2.owns_here a ha
        split at hr
        · rename_i ρ3 σ3 h5
          refine sss HS h5 Fs2 X2.inv HA' fun s3 φ3 f X3 F3 hf => ?_
          have hf' : f = .next := hf
          subst hf'
          have hiφ3 : I0 ∉ φ3 := fun hm => (X3.new _ hm).elim hiφ fun z => by obtain ⟨o, e, _⟩ := hi2.soft; rw [z.1] at e; cases e
          exact ⟨m, Nat.lt_succ_self _, .mk (((y.trans y1).trans X2').trans (X3.more (fun a ha => List.mem_cons_of_mem _ ha) ex2)) hr (hi2.mono X3.rigid (fun o e => X3.keep _ o hiφ hio e) X3.pre) hiφ3 F3⟩
        · rename_i r2 ρ3 σ3 h5
          cases hr
          refine sss HS h5 Fs2 X2.inv HA' fun s3 φ3 f X3 F3 hf => ?_
          obtain ⟨val', hfv, hrp⟩ := hf
          subst hfv
          exact fin _ _ _ (((y.trans y1).trans X2').trans (X3.more (fun a ha => List.mem_cons_of_mem _ ha) ex2)) F3 ⟨val', rfl, hrp⟩
        · cases hr
      · subst hv
        simp only at hr
        cases hr
        have y1 := ToX.place (tk := tk) (X := I0 :: owns env) Ik (by simp) hiφ hbit hoi hsi hk
        have F1 : Fm ad base sc ρ' env φk h' := Fk.place hoi hsi (fun e => hio (by rw [← e]; exact List.mem_cons_self)) (fun a c hc e => hio (by rw [← e]; exact List.mem_cons_of_mem _ (List.mem_map.mpr ⟨_, hc, rfl⟩))) hk
        exact wpAny_execs_nil (fin _ _ _ (y.trans y1) F1 rfl)
end
end Ab

end
section
set_option maxRecDepth 100000
namespace Ab
open PySem PySem.W PySem.Calls PyProof.Rows PySem.Spec

section
variable {prog : Program} {w : World} {ad : Ads} {base : Heap} {K : Frag} {mg mb : Str → Option Value} {n : Nat}

theorem ss_step (T : Text prog w ad base K mg mb) (H : SE prog w ad base n) (HT : ST prog w ad base n) (HS : SS prog w ad base n) (Hm : ∀ m, n = m + 1 → SE prog w ad base m ∧ ST prog w ad base m) : SS prog w ad base (n + 1) := by
  intro k sc st ρ σ fl ρ' σ' φ s env A E Q he F I HA q
  have dead : ∀ {r}, exec (n + 1) PS.dead ρ σ = some r → False := fun h => by simp [exec] at h
  cases k with
  | zero => exact (dead he).elim
  | succ k =>
    have hsh := trS_sh k sc st
    generalize trS (k + 1) sc st = ps at he hsh
    cases hsh with
    | dead => exact (dead he).elim
    | ret => exact ss_ret H he F I HA q
    | expr e p hc => exact ss_expr H (by simpa using hc) he F I HA q
    | assign x xp e p hx => exact ss_assign H Hm hx he F I HA q
    | swap ts a b es c d p xs hxs hnd hc =>
      simp only [Bool.and_eq_true, beq_iff_eq, decide_eq_true_eq, Bool.not_eq_true'] at hc
      obtain ⟨⟨⟨h1, h2⟩, h3⟩, h4⟩ := hc
      exact ss_swap H hxs hnd h1 h2 h3 h4 he F I HA q
    | unpack ts a b e p xs hxs hc hnt => exact ss_unpack H hxs (by simpa using hc) hnt he F I HA q
    | setItem o i a e p hc => exact ss_setItem H (by simpa using hc) he F I HA q
    | setAttr o a b e p hc =>
      simp only [Bool.and_eq_true, Bool.not_eq_true'] at hc
      exact ss_setAttr T H hc.1 hc.2 he F I HA q
    | ite => exact ss_if H HT HS he F I HA q
    | for_ x a it b p hx => exact ss_for H HS hx he F I HA q
    | while_ => exact ss_while H HT HS he F I HA q

theorem mem_lookup {β : Type} : ∀ {l : List (Str × β)} {x : Str} {c : β}, (l.map (·.1)).Nodup → (x, c) ∈ l → l.lookup x = some c
  | [], _, _, _, h => by simp at h
  | (y, d) :: r, x, c, hn, h => by
    simp only [List.map_cons, List.nodup_cons] at hn
    rcases List.mem_cons.mp h with e | h2
    · cases e; rw [List.lookup_cons_self]
    · have hne : (x == y) = false := by
        rw [beq_eq_false_iff_ne]
        rintro rfl
        exact hn.1 (List.mem_map.mpr ⟨(x, c), h2, rfl⟩)
      rw [List.lookup_cons, hne]
      exact mem_lookup hn.2 h2

theorem cells_nodup : ∀ (names : List (Str × NameKind)) (m : Nat) (acc : List (Str × Addr)), (acc.map (·.1)).Nodup → (names.map (·.1)).Nodup → (∀ x ∈ names.map (·.1), x ∉ acc.map (·.1)) → ((cellsFrom m names acc).map (·.1)).Nodup
  | [], m, acc, h1, _, _ => h1
  | (y, kd) :: r, m, acc, h1, h2, h3 => by
    simp only [List.map_cons, List.nodup_cons] at h2
    unfold cellsFrom
    split
    · refine cells_nodup r _ _ ?_ h2.2 fun x hx => ?_
      · simp only [List.map_cons, List.nodup_cons]
        exact ⟨h3 y (by simp), h1⟩
      · simp only [List.map_cons, List.mem_cons, not_or]
        exact ⟨fun e => h2.1 (e ▸ hx), h3 x (List.mem_cons_of_mem _ hx)⟩
    · exact cells_nodup r _ _ h1 h2.2 fun x hx => h3 x (List.mem_cons_of_mem _ hx)

theorem apart_inj : ∀ {l : List (Str × Addr)} {x y : Str} {c : Addr}, (l.Pairwise fun x y => x.2 ≠ y.2) → (x, c) ∈ l → (y, c) ∈ l → x = y
  | [], _, _, _, _, h, _ => by simp at h
  | p :: r, x, y, c, hp, h1, h2 => by
    obtain ⟨g1, g2⟩ := List.pairwise_cons.mp hp
    rcases List.mem_cons.mp h1 with e1 | h1
    · rcases List.mem_cons.mp h2 with e2 | h2
      · rw [← e1] at e2; exact (congrArg Prod.fst e2).symm
      · exact absurd (by rw [← e1]) (g1 _ h2)
    · rcases List.mem_cons.mp h2 with e2 | h2
      · exact absurd (by rw [← e2]) (g1 _ h1)
      · exact apart_inj g2 h1 h2

theorem bind_rel {φ : List Addr} {h : Heap} {kindOf : Str → Option NameKind} : ∀ {xs : List Str} {vals : List Value} {vs : List V} {m cm : Str → Option Value} {ρ : Loc}, Reps ad φ h vals vs → xs.length = vs.length → (∀ x ∈ xs, x ∈ names) →
    (∀ y v, y ∈ names → kindOf y = some .local → ρ (nm y) = some v → ∃ val, m y = some val ∧ Rep ad φ h val v) → (∀ y v, y ∈ names → kindOf y ≠ some .local → ρ (nm y) = some v → ∃ val, cm y = some val ∧ Rep ad φ h val v) →
    (∀ y v, y ∈ names → kindOf y = some .local → bindAll (xs.map nm) vs ρ (nm y) = some v → ∃ val, bindL kindOf (xs.zip vals) m y = some val ∧ Rep ad φ h val v) ∧
    (∀ y v, y ∈ names → kindOf y ≠ some .local → bindAll (xs.map nm) vs ρ (nm y) = some v → ∃ val, bindC kindOf (xs.zip vals) cm y = some val ∧ Rep ad φ h val v)
  | [], vals, vs, m, cm, ρ, r, hl, hx, hm, hcm => by
    have : vs = [] := by cases vs with | nil => rfl | cons _ _ => simp at hl
    subst this
    cases r
    exact ⟨hm, hcm⟩
  | x :: xs, vals, vs, m, cm, ρ, r, hl, hx, hm, hcm => by
    cases vs with
    | nil => simp at hl
    | cons v vs =>
      cases r with
      | cons r1 r2 =>
        rename_i val vals
        have hxn := hx x (by simp)
        simp only [List.map_cons, bindAll, List.zip_cons_cons, bindL, bindC]
        refine bind_rel r2 (by simpa using hl) (fun y hy => hx y (List.mem_cons_of_mem _ hy)) (fun y u h1 h2 h3 => ?_) (fun y u h1 h2 h3 => ?_)
        · by_cases e : y = x
          · subst e
            rw [upd_same] at h3; cases h3
            rw [if_pos h2]
            exact ⟨val, by simp, r1⟩
          · rw [upd_ne (fun z => e (nm_inj h1 hxn z))] at h3
            obtain ⟨u', g1, g2⟩ := hm y u h1 h2 h3
            refine ⟨u', ?_, g2⟩
            split
            · simp [e, g1]
            · exact g1
        · by_cases e : y = x
          · subst e
            rw [upd_same] at h3; cases h3
            rw [if_neg h2]
            exact ⟨val, by simp, r1⟩
          · rw [upd_ne (fun z => e (nm_inj h1 hxn z))] at h3
            obtain ⟨u', g1, g2⟩ := hcm y u h1 h2 h3
            refine ⟨u', ?_, g2⟩
            split
            · exact g1
            · simp [e, g1]

theorem sc_step (T : Text prog w ad base K mg mb) (HS : SS prog w ad base n) : SC prog w ad base (n + 1) := by
  intro i vs vals σ r σ' φ s A R he I rv HA q
  simp only [callF, one_some] at he
  obtain ⟨fn, h1, h2⟩ := he
  unfold FT at h1
  simp only [Option.map_eq_some_iff] at h1
  obtain ⟨d, hd, rfl⟩ := h1
  split at h2
  · rename_i hl
    simp only [one_some] at h2
    obtain ⟨⟨fl, ρ', σ''⟩, h3, h4⟩ := h2
    have D := T.fn i d hd
    obtain ⟨o, fd, ho, hdata, hcd, hbody, hsc, hg, hb, hclo, hbind⟩ := D.at_
    have hpl : (d.1.args.map (·.arg)).length = vs.length := by simpa [fnOf] using hl
    have hvl : vals.length = vs.length := rv.length
    have hkeep := I.stay
    have hcd' : s.heap.CodeRec fd.code fd.qualname := by
      obtain ⟨c, oc, vs', t, e1, e2, e3, e4⟩ := hcd
      exact ⟨c, oc, vs', t, e1, hkeep _ _ e2, e3, e4⟩
    have hbn : ∀ x ∈ ((d.1.args.map (·.arg)).zip vals), x.1 ∈ d.1.args.map (·.arg) := fun x hx => (List.of_mem_zip hx).1
    refine codeAny_call_cells (o := o) (fd := fd) (body := d.2.1) (binds := (d.1.args.map (·.arg)).zip vals) (by have := HA.2.1; omega) (hkeep _ _ ho) hdata (T.noLimit.keeps hkeep) hcd' hbody (hbind vals (by rw [hvl, ← hpl, List.length_map])) hclo (fun x hx => ?_) (fun s1 C => ?_)
      (by rw [hsc]; exact D.co) (by rw [hsc]; exact D.gen) (by rw [hsc]; exact D.kind)
    · rcases (D.known x.1 (hbn x hx)).2 with z | z
      · exact .inl (by rw [hsc]; exact z)
      · exact .inr ⟨by rw [hsc]; exact z, cellsFrom_some _ _ _ (.inl (by rw [hsc]; exact z))⟩
    · -- the frame
      have hLfresh : ∀ a, s.heap.objs.size ≤ a → s.heap.get? a = Option.none := fun a ha => Heap.get?_none_of_le ha
      obtain ⟨h', tk, hs1⟩ := C.toInCall.same
      have x0 : To prog w ad base φ s σ φ s1 := by
        have := To.kept (h' := s1.heap) (tk := tk) I C.toInCall.keep
        rw [hs1] at this ⊢
        exact this
      have hLle := C.toInCall.fresh
      have hL := I.new (hLfresh _ hLle)
      have cnd : ((callEnvC fd s.heap.objs.size (ad.fn i)).cells.map (·.1)).Nodup := by
        show ((cellsFrom (s.heap.objs.size + 1) fd.scope.names []).map (·.1)).Nodup
        rw [hsc]
        exact cells_nodup _ _ _ (by simp) D.scope (by simp)
      have hcells : ∀ y c, (y, c) ∈ (callEnvC fd s.heap.objs.size (ad.fn i)).cells → (∃ v₀, s1.heap.IsCell c v₀) ∧ s.heap.get? c = Option.none ∧ c ≠ (callEnvC fd s.heap.objs.size (ad.fn i)).locals := fun y c hy => by
        have hab := C.above y c hy
        exact ⟨⟨_, C.cell y c (mem_lookup cnd hy)⟩, hLfresh _ (Nat.le_of_lt (Nat.lt_of_le_of_lt hLle hab)), Nat.ne_of_gt hab⟩
      have rel := bind_rel (ad := ad) (φ := φ) (h := s1.heap) (kindOf := (callEnvC fd s.heap.objs.size (ad.fn i)).kindOf) (xs := d.1.args.map (·.arg)) (vals := vals) (vs := vs) (m := fun _ => Option.none) (cm := fun _ => Option.none) (ρ := fun _ => Option.none)
        (x0.reps rv) hpl (fun x hx => (D.known x hx).1) (fun y v _ _ e => by cases e) (fun y v _ _ e => by cases e)
      have hps : (fnOf d).params = (d.1.args.map (·.arg)).map nm := by simp [fnOf, Function.comp_def]
      have F0 : Fm ad base d.2.2 (bindAll (fnOf d).params vs fun _ => Option.none) (callEnvC fd s.heap.objs.size (ad.fn i)) φ s1.heap := by
        rw [hps]
        refine ⟨?_, fun x hx => ?_, fun x hx => ?_, fun x hx => ?_, fun x hx => .inr ?_, hg, hb, ⟨hL.2, hL.1⟩, ⟨_, C.toInCall.ns, fun x v g1 g2 g3 => ?_⟩, fun x c hx => ?_, fun x hx => ?_, fun x y c hx hy => ?_⟩
        · show fd.scope.kind = _; rw [hsc]; exact D.kind
        · show fd.scope.names.lookup x = _; rw [hsc]; exact hx
        · show fd.scope.names.lookup x = _; rw [hsc]; exact hx
        · show fd.scope.names.lookup x = _; rw [hsc]; exact hx
        · show fd.scope.names.lookup x = _; rw [hsc]; exact hx
        · exact rel.1 x v g1 (by show fd.scope.names.lookup x = _; rw [hsc]; exact g2) g3
        · obtain ⟨g1, g2, g3⟩ := hcells x c hx
          exact ⟨g1, (I.new g2).2, (I.new g2).1, g3⟩
        · rcases hx with hx | hx
          · have hsome := cellsFrom_some fd.scope.names (s.heap.objs.size + 1) [] (x := x) (.inl (by rw [hsc]; exact hx))
            obtain ⟨c, hc⟩ := Option.isSome_iff_exists.mp hsome
            refine ⟨c, _, hc, C.cell x c hc, fun v g1 g2 => rel.2 x v g1 ?_ g2⟩
            show fd.scope.names.lookup x ≠ _
            rw [hsc, hx]; decide
          · exact absurd rfl (D.free _ (lookup_mem hx))
        · exact apart_inj C.apart (lookup_mem hx) (lookup_mem hy)
      have HA1 : AOk n (A.deeper (callEnvC fd s.heap.objs.size (ad.fn i))) := HA.deeper
      refine sss HS h3 F0 x0.inv HA1 fun s2 φ2 f X2 F2 hf => ?_
      have hown : ∀ a ∈ owns (callEnvC fd s.heap.objs.size (ad.fn i)), s.heap.get? a = Option.none := fun a ha => by
        rcases List.mem_cons.mp ha with rfl | ha
        · exact hLfresh _ hLle
        · obtain ⟨⟨y, c⟩, hm, rfl⟩ := List.mem_map.mp ha
          exact (hcells y c hm).2.1
      have X := To.close x0 X2 hown
      cases fl with
      | next =>
        cases h4
        have hf' : f = .next := hf
        subst hf'
        exact q _ _ _ X .none
      | ret v =>
        cases h4
        obtain ⟨val, hfv, hr⟩ := hf
        subst hfv
        exact q _ _ _ X hr
  · cases h2

theorem steps (T : Text prog w ad base K mg mb) : ∀ n, SE prog w ad base n ∧ ST prog w ad base n ∧ SS prog w ad base n ∧ SC prog w ad base n := by
  intro n
  induction n using Nat.strongRecOn with
  | _ n ih =>
    cases n with
    | zero =>
      refine ⟨fun he => ?_, fun he => ?_, fun he => ?_, fun he => ?_⟩
      · simp [ev] at he
      · simp [ev] at he
      · simp [exec] at he
      · simp [callF] at he
    | succ n =>
      obtain ⟨H, HT, HS, HC⟩ := ih n (Nat.lt_succ_self _)
      have H1 : SE prog w ad base (n + 1) := se_step T H HT HC
      refine ⟨H1, st_step T H HT H1, ss_step T H HT HS (fun m hm => ?_), sc_step T HS⟩
      obtain ⟨a, b, _⟩ := ih m (by omega)
      exact ⟨a, b⟩

/-- a function's body, run in a frame of its own -/
theorem run_sound (T : Text prog w ad base K mg mb) {sc : Scope} {b : List Stmt} {ρ ρ' : Loc} {σ σ' : Store} {fl : Fl} {φ : List Addr} {s : Shared} {env : Env} {A : Around} {E : Value → Shared → Prop} {Q : Flow → Shared → Prop} {k : Nat}
    (he : execs (exec n) (b.map (trS k sc)) ρ σ = some (fl, ρ', σ')) (F : Fm ad base sc ρ env φ s.heap) (I : Inv prog w ad base σ φ s.heap) (HA : AOk n A) (q : Then prog w ad base sc env φ s fl ρ' σ' Q) : wpAny (model prog w) A (PySem.execs b env) Q E s :=
  sss (steps T n).2.2.1 he F I HA q
end
end Ab

end
section
set_option maxRecDepth 100000
namespace Ab
open PySem PySem.W PySem.Calls PyProof.Rows PySem.Spec

theorem fm_congr {α β : Type} {f g : α → Option β} : ∀ {l : List α}, (∀ a ∈ l, f a = g a) → l.filterMap f = l.filterMap g
  | [], _ => rfl
  | a :: l, h => by rw [List.filterMap_cons, List.filterMap_cons, h a (by simp), fm_congr fun b hb => h b (List.mem_cons_of_mem _ hb)]
theorem lookup_zip_nodup : ∀ {xs : List Str} {vs : List Value}, xs.Nodup → xs.length = vs.length → xs.filterMap (fun n => ((xs.zip vs).lookup n).map (n, ·)) = xs.zip vs
  | [], [], _, _ => rfl
  | x :: xs, v :: vs, hn, hl => by
    obtain ⟨h1, h2⟩ := List.nodup_cons.mp hn
    have ih := lookup_zip_nodup h2 (by simpa using hl)
    rw [List.zip_cons_cons, List.filterMap_cons, List.lookup_cons_self]
    simp only [Option.map_some]
    congr 1
    have : ∀ n ∈ xs, (((x, v) :: xs.zip vs).lookup n).map (n, ·) = ((xs.zip vs).lookup n).map (n, ·) := fun n hnx => by
      have hne : (n == x) = false := by rw [beq_eq_false_iff_ne]; rintro rfl; exact h1 hnx
      rw [List.lookup_cons, hne]
    rw [fm_congr this]
    exact ih
  | [], _ :: _, _, h => by simp at h
  | _ :: _, [], _, h => by simp at h
theorem lookup_zip_some : ∀ {xs : List Str} {vs : List Value} {n : Str}, xs.length = vs.length → n ∈ xs → ((xs.zip vs).lookup n).isNone = false
  | [], _, _, _, h => by simp at h
  | x :: xs, [], _, hl, _ => by simp at hl
  | x :: xs, v :: vs, n, hl, h => by
    rw [List.zip_cons_cons, List.lookup_cons]
    cases e : n == x with
    | true => rfl
    | false =>
      rcases List.mem_cons.mp h with rfl | h
      · simp at e
      · exact lookup_zip_some (by simpa using hl) h

theorem bind_plain {fd : FuncData} {ps : List Arg} {kd : List (Option Expr)} (h : fd.params = ⟨[], ps, none, [], kd, none, []⟩) (hd : fd.defaults = .none) (hn : (ps.map (·.arg)).Nodup) {vals : List Value} (hl : vals.length = ps.length) :
    bindArgs fd ⟨vals, []⟩ = pure ((ps.map (·.arg)).zip vals) := by
  have h1 : (ps.map (·.arg)).length = vals.length := by simp [hl]
  have hmiss : ((ps.map (·.arg)).filter fun n => (((ps.map (·.arg)).zip vals).lookup n).isNone) = [] := by
    rw [List.filter_eq_nil_iff]
    intro n hm
    rw [lookup_zip_some h1 hm]; decide
  have hbinds := lookup_zip_nodup hn h1
  have hgt : ¬ vals.length > ps.length := by omega
  unfold bindArgs
  rw [h, hd]
  simp only [seqItems?, notAStandIn]
  simp [hgt, hmiss, hbinds, h1, hl]
  rw [if_neg (by
    have e : (List.map (fun x : Arg => x.arg) [] ++ ps.map (·.arg)) = ps.map (·.arg) := by simp
    rw [e]
    have e2 : (ps.map (·.arg)).take ((ps.map (·.arg)).length - (List.drop ((#[] : Array Value).size - (ps.map (·.arg)).length) ([] : List Value)).length) = ps.map (·.arg) := by
      simp
      exact List.take_of_length_le (by simp)
    rw [e2, hmiss]; decide)]
  rw [← List.filterMap_map, hbinds]
end Ab

end
section
set_option maxRecDepth 100000
namespace Ab
open PySem PySem.W PySem.Calls PyProof.Rows PySem.Spec

/-! the heap's fragment K, read -/
noncomputable def refOf : Option (Option Value) → Addr
  | some (some (.ref a)) => a
  | _ => 0
noncomputable def isRefB : Option (Option Value) → Addr → Bool
  | some (some (.ref a)), b => a == b
  | _, _ => false
theorem isRefB_eq {x : Option (Option Value)} {b : Addr} (h : isRefB x b = true) : x = some (some (.ref b)) := by
  unfold isRefB at h
  split at h
  · rw [beq_iff_eq] at h; rw [h]
  · cases h
noncomputable def isNoneB : Option (Option Value) → Bool
  | some none => true
  | _ => false
theorem isNoneB_eq {x : Option (Option Value)} (h : isNoneB x = true) : x = some none := by
  unfold isNoneB at h
  split at h
  · rfl
  · cases h
noncomputable def isBiB : Option (Option Value) → String → Bool
  | some (some (.builtin a)), b => a == b
  | _, _ => false
theorem isBiB_eq {x : Option (Option Value)} {b : String} (h : isBiB x b = true) : x = some (some (.builtin b)) := by
  unfold isBiB at h
  split at h
  · rw [beq_iff_eq] at h; rw [h]
  · cases h
noncomputable def isTyB : Option Value → String → Bool
  | some (.type a), b => a == b
  | _, _ => false
theorem isTyB_eq {x : Option Value} {b : String} (h : isTyB x b = true) : x = some (.type b) := by
  unfold isTyB at h
  split at h
  · rw [beq_iff_eq] at h; rw [h]
  · cases h

noncomputable def clsAddr (K : Frag) (c : Nat) : Addr := match clsNames[c]? with
  | some n => refOf (nsIn K mainGlobals n)
  | none => 0
noncomputable def fnAddr (K : Frag) (i : Nat) : Addr := match fnNames[i]? with
  | some (none, n) => refOf (nsIn K mainGlobals n)
  | some (some c, n) => refOf (findIn K (.ref (refOf (nsIn K mainGlobals c))) n)
  | none => 0
noncomputable def adOf (K : Frag) (script : Addr) (vals : List Value) (nums : List Int) : Ads := ⟨refOf (nsIn K mainGlobals "_law_told"), clsAddr K, fnAddr K, script, vals, nums⟩

/-! functions -/
noncomputable def plainArgs (d : Arguments) : Bool := d.posonlyargs.isEmpty && d.vararg.isNone && d.kwonlyargs.isEmpty && d.kwarg.isNone && d.defaults.isEmpty
theorem plainArgs_eq {d : Arguments} (h : plainArgs d = true) : d = ⟨[], d.args, none, [], d.kw_defaults, none, []⟩ := by
  obtain ⟨a, b, c, d, e, f, g⟩ := d
  simp only [plainArgs, Bool.and_eq_true, List.isEmpty_iff, Option.isNone_iff_eq_none] at h
  obtain ⟨⟨⟨⟨rfl, rfl⟩, rfl⟩, rfl⟩, rfl⟩ := h
  rfl
noncomputable def kindIs (k : Option NameKind) (j : NameKind) : Bool := k == some j
noncomputable def declOk (d : Arguments × List Stmt × Scope) : Bool :=
  !d.2.2.isCoroutine && !d.2.2.isGenerator && decide (d.2.2.kind = .function) && plainArgs d.1 && decide (d.1.args.map (·.arg)).Nodup && decide (d.2.2.names.map (·.1)).Nodup &&
  (d.1.args.map (·.arg)).all (fun x => decide (x ∈ names) && (decide (d.2.2.names.lookup x = some .local) || decide (d.2.2.names.lookup x = some .cell))) &&
  d.2.2.names.all fun p => decide (p.2 ≠ .free)
theorem declOk_all : ((List.range 22).all fun i => (decl i).all declOk) = true := by decide +kernel
theorem declOk_of {i : Nat} {d : Arguments × List Stmt × Scope} (e : decl i = some d) : i < 22 ∧ declOk d = true := by
  have hi : i < 22 := by
    refine Decidable.byContradiction fun hn => ?_
    have : fnNames[i]? = none := List.getElem?_eq_none (by show 22 ≤ i; omega)
    unfold decl at e
    rw [this] at e
    cases e
  have h := List.all_eq_true.mp declOk_all i (List.mem_range.mpr hi)
  rw [e] at h
  exact ⟨hi, h⟩

noncomputable def kfn (K : Frag) (a : Addr) : Option FuncData := match K.lookup a with
  | some ⟨_, _, .func fd, _⟩ => some fd
  | _ => none
theorem kfn_eq {K : Frag} {a : Addr} {fd : FuncData} (h : kfn K a = some fd) : ∃ o, K.lookup a = some o ∧ o.data = .func fd := by
  unfold kfn at h
  split at h
  · rename_i q; cases h; exact ⟨_, q, rfl⟩
  · cases h
noncomputable def fnText (fd : FuncData) : FuncBody × Scope × Arguments × Addr × Addr × List (Str × Addr) := (fd.body, fd.scope, fd.params, fd.globals, fd.builtins, fd.closure)
noncomputable def fnTexts (K : Frag) : List (Option (FuncBody × Scope × Arguments × Addr × Addr × List (Str × Addr))) := (List.range 22).map fun i => (kfn K (fnAddr K i)).map fnText
noncomputable def declTexts : List (Option (FuncBody × Scope × Arguments × Addr × Addr × List (Str × Addr))) := (List.range 22).map fun i => (decl i).map fun d => (.stmts d.2.1, d.2.2, d.1, mainGlobals, builtinsNs, [])
noncomputable def isNoneV : Value → Bool
  | .none => true
  | _ => false
theorem isNoneV_eq {v : Value} (h : isNoneV v = true) : v = .none := by
  unfold isNoneV at h
  split at h
  · rfl
  · cases h
/-- what a function's object must show beside its text -/
noncomputable def fnSide (K : Frag) : Bool := (List.range 22).all fun i => ((kfn K (fnAddr K i)).any fun fd => isNoneV fd.defaults && codeIn K fd.code fd.qualname) &&
  keepIn K (.ref (fnAddr K i)) && isTyB (typeIn K (.ref (fnAddr K i))) "function"

theorem range_map {α : Type} {f g : Nat → α} {n : Nat} (h : (List.range n).map f = (List.range n).map g) {i : Nat} (hi : i < n) : f i = g i := by
  have := congrArg (fun l => l[i]?) h
  simpa [hi] using this

theorem fnAt_of {K : Frag} {base : Heap} (X : K.In base) (hT : fnTexts K = declTexts) (hS : fnSide K = true) {i : Nat} {d : Arguments × List Stmt × Scope} (e : decl i = some d) : FnAt base (fnAddr K i) d := by
  obtain ⟨hi, hok⟩ := declOk_of e
  have h1 := range_map hT hi
  rw [e] at h1
  have h2 := List.all_eq_true.mp hS i (List.mem_range.mpr hi)
  simp only [Bool.and_eq_true] at h2
  obtain ⟨⟨h2, h3⟩, h4⟩ := h2
  cases hk : kfn K (fnAddr K i) with
  | none => rw [hk] at h1; cases h1
  | some fd =>
    rw [hk] at h1 h2
    simp only [Option.any_some, Bool.and_eq_true] at h2
    obtain ⟨hd, hc⟩ := h2
    simp only [Option.map_some, Option.some.injEq, fnText, Prod.mk.injEq] at h1
    obtain ⟨e1, e2, e3, e4, e5, e6⟩ := h1
    obtain ⟨o, ho, hod⟩ := kfn_eq hk
    simp only [declOk, Bool.and_eq_true, decide_eq_true_eq, Bool.not_eq_true', List.all_eq_true, Bool.or_eq_true] at hok
    obtain ⟨⟨⟨⟨⟨⟨⟨k1, k2⟩, k3⟩, k4⟩, k5⟩, k6⟩, k7⟩, k8⟩ := hok
    exact ⟨⟨o, fd, X _ _ ho, hod, codeRec_of X hc, e1, e2, e4, e5, e6, fun vals hl => bind_plain (e3.trans (plainArgs_eq k4)) (isNoneV_eq hd) k5 hl⟩, k1, k2, k3, k7, k5, k6, k8⟩
end Ab

end
section
set_option maxRecDepth 100000
namespace Ab
open PySem PySem.W PySem.Calls PyProof.Rows PySem.Spec

/-! classes -/
noncomputable def clsOk (K : Frag) (c : Nat) : Bool :=
  makesIn K (clsAddr K c) && keepIn K (.ref (clsAddr K c)) &&
  (match inits[c]? with | some f => isRefB (findIn K (.ref (clsAddr K c)) "__init__") (fnAddr K f) && decide (f < 22) | none => true) &&
  (names.all fun x => match methOf c (nm x) with | some f => isRefB (findIn K (.ref (clsAddr K c)) x) (fnAddr K f) && decide (f < 22) | none => true) &&
  (names.all fun x => !okAttr x || isNoneB (findIn K (.ref (clsAddr K c)) x)) &&
  isBiB (findIn K (.ref (clsAddr K c)) "__getattribute__") "object.__getattribute__" && isNoneB (findIn K (.ref (clsAddr K c)) "__getattr__") &&
  isBiB (findIn K (.ref (clsAddr K c)) "__setattr__") "object.__setattr__" && plainOver K (clsAddr K c) && hasDictIn K (clsAddr K c)

theorem typ_of {K : Frag} (hS : fnSide K = true) {f : Nat} (hf : f < 22) : typeIn K (.ref (fnAddr K f)) = some (.type "function") := by
  have h2 := List.all_eq_true.mp hS f (List.mem_range.mpr hf)
  simp only [Bool.and_eq_true] at h2
  exact isTyB_eq h2.2
theorem keep_of {K : Frag} (hS : fnSide K = true) {f : Nat} (hf : f < 22) : keepIn K (.ref (fnAddr K f)) = true := by
  have h2 := List.all_eq_true.mp hS f (List.mem_range.mpr hf)
  simp only [Bool.and_eq_true] at h2
  exact h2.1.2
theorem okAttr_mem {x : Str} (h : okAttr x = true) : x ∈ names := by
  unfold okAttr known at h
  rw [Bool.and_eq_true] at h
  simpa using h.1

theorem clsAt_of {K : Frag} {script : Addr} {vals : List Value} {nums : List Int} (hS : fnSide K = true) {c : Nat} (h : clsOk K c = true) : ClsAt K (adOf K script vals nums) c ∧ keepIn K (.ref ((adOf K script vals nums).cls c)) = true := by
  unfold clsOk at h
  simp only [Bool.and_eq_true] at h
  obtain ⟨⟨⟨⟨⟨⟨⟨⟨⟨h1, h2⟩, h3⟩, h4⟩, h5⟩, h6⟩, h7⟩, h8⟩, h9⟩, h10⟩ := h
  refine ⟨⟨h1, fun f hf => ?_, fun x f hx hm => ?_, fun x hx => ?_, isBiB_eq h6, isNoneB_eq h7, isBiB_eq h8, h9, h10⟩, h2⟩
  · rw [hf] at h3
    simp only [Bool.and_eq_true, decide_eq_true_eq] at h3
    exact ⟨isRefB_eq h3.1, typ_of hS h3.2⟩
  · have q := List.all_eq_true.mp h4 x hx
    rw [hm] at q
    simp only [Bool.and_eq_true, decide_eq_true_eq] at q
    exact ⟨isRefB_eq q.1, typ_of hS q.2⟩
  · have q := List.all_eq_true.mp h5 x (okAttr_mem hx)
    rw [hx] at q
    exact isNoneB_eq q

/-! the told table -/
noncomputable def all2 {α β : Type} (f : α → β → Bool) : List α → List β → Bool
  | [], [] => true
  | a :: as, b :: bs => f a b && all2 f as bs
  | _, _ => false
noncomputable def repK (K : Frag) : Nat → Value → V → Bool
  | 0, _, _ => false
  | n + 1, v, x => match x with
    | .str l => (match v with | .str y _ => decide (y.cps.toList = l) | _ => false)
    | .tup vs => (match v with
      | .ref a => (match K.lookup a with
        | some ⟨.type c, none, .seq items _, sl⟩ => c == "tuple" && sl.isEmpty && all2 (repK K n) items.toList vs
        | _ => false)
      | _ => false)
    | _ => false
theorem all2_reps {ad : Ads} {base : Heap} {f : Value → V → Bool} (hf : ∀ v x, f v x = true → Rep ad [] base v x) : ∀ {vs xs}, all2 f vs xs = true → Reps ad [] base vs xs
  | [], [], _ => .nil
  | v :: vs, x :: xs, h => by
    rw [all2, Bool.and_eq_true] at h
    exact .cons (hf _ _ h.1) (all2_reps hf h.2)
  | [], _ :: _, h => by cases h
  | _ :: _, [], h => by cases h
theorem repK_rep {K : Frag} {ad : Ads} {base : Heap} (X : K.In base) : ∀ {n v x}, repK K n v x = true → Rep ad [] base v x := by
  intro n
  induction n with
  | zero => intro v x h; cases h
  | succ n ih =>
    intro v x h
    cases x with
    | str l => cases v with
      | str y t =>
        have e := of_decide_eq_true h
        subst e
        exact .str _ _
      | _ => cases h
    | tup vs => cases v with
      | ref a =>
        have h : (match (generalizing := false) K.lookup a with
          | some ⟨.type c, none, .seq items _, sl⟩ => c == "tuple" && sl.isEmpty && all2 (repK K n) items.toList vs
          | _ => false) = true := h
        split at h
        · rename_i c items k sl q
          simp only [Bool.and_eq_true, beq_iff_eq] at h
          obtain ⟨⟨rfl, h2⟩, h3⟩ := h
          have : sl = #[] := by simpa using h2
          subst this
          exact .tup (X _ _ q) (all2_reps (fun v x hv => ih hv) h3)
        · cases h
      | _ => cases h
    | _ => cases h

noncomputable def toldObj (K : Frag) : Option (Array DictEntry × Nat) := match K.lookup (refOf (nsIn K mainGlobals "_law_told")) with
  | some ⟨c, none, .dict es n, sl⟩ => if isTyB (some c) "dict" && sl.toList.isEmpty then some (es, n) else none
  | _ => none
noncomputable def strOf? : Value → Option Str
  | .str x _ => some x
  | _ => none
end Ab

end
section
set_option maxRecDepth 100000
namespace Ab
open PySem PySem.W PySem.Calls PyProof.Rows PySem.Spec

noncomputable def toldA (K : Frag) : Addr := refOf (nsIn K mainGlobals "_law_told")
noncomputable def toldKeys (K : Frag) : Option (List (Option Str)) := (toldObj K).map fun p => p.1.toList.map fun e => strOf? e.key
noncomputable def toldHash (K : Frag) : Option (List Int) := (toldObj K).map fun p => p.1.toList.map (·.hash)
noncomputable def toldVals (K : Frag) : Bool := (toldObj K).any fun p => all2 (repK K 10) (p.1.toList.map (·.val)) (toldTab.map (·.2))

theorem strOf?_eq {v : Value} {x : Str} (h : strOf? v = some x) : ∃ t, v = .str x t := by
  unfold strOf? at h
  split at h
  · cases h; exact ⟨_, rfl⟩
  · cases h
theorem toldObj_eq {K : Frag} {es : Array DictEntry} {n : Nat} (h : toldObj K = some (es, n)) : K.lookup (toldA K) = some ⟨.type "dict", none, .dict es n, #[]⟩ := by
  unfold toldObj at h
  split at h
  · rename_i c es' n' sl q
    split at h
    · rename_i hc
      rw [Bool.and_eq_true] at hc
      have h1 := isTyB_eq hc.1
      cases h1
      have : sl = #[] := by
        have := hc.2
        simpa using this
      subst this
      cases h
      exact q
    · cases h
  · cases h

theorem told_of {prog : Program} {w : World} {K : Frag} {base : Heap} {script : Addr} {vals : List Value} {nums : List Int} (X : K.In base) (h1 : toldKeys K = some [some ("t" : Str), some ("u" : Str)]) (h2 : toldHash K = some [PyData.keyHash w.params "t", PyData.keyHash w.params "u"])
    (h3 : toldVals K = true) (hn : (toldA K == sysModules) = false) (sy : ∃ o, base.get? sysModules = some o) (hs : IsL base script vals.toArray 0) (hi : ∀ {ad : Ads}, Reps ad [] base vals (nums.map .int)) : ToldAt prog w (adOf K script vals nums) base := by
  refine ⟨?_, hn, sy, hs, hi⟩
  unfold toldKeys at h1
  unfold toldHash at h2
  unfold toldVals at h3
  cases e : toldObj K with
  | none => rw [e] at h1; cases h1
  | some p =>
    obtain ⟨es, n⟩ := p
    rw [e] at h1 h2 h3
    have ho := X _ _ (toldObj_eq e)
    obtain ⟨l⟩ := es
    simp only [Option.map_some, Option.some.injEq, Option.any_some] at h1 h2 h3
    have hl : l.length = 2 := by simpa using congrArg List.length h1
    obtain ⟨e1, e2, rfl⟩ : ∃ a b, l = [a, b] := by
      rcases l with _ | ⟨a, _ | ⟨b, _ | ⟨c, l⟩⟩⟩
      · cases hl
      · cases hl
      · exact ⟨a, b, rfl⟩
      · simp at hl
    simp only [List.map_cons, List.map_nil, List.cons.injEq, and_true] at h1 h2
    obtain ⟨t1, q1⟩ := strOf?_eq h1.1
    obtain ⟨t2, q2⟩ := strOf?_eq h1.2
    refine ⟨[("t", e1.val), ("u", e2.val)], ⟨_, _, _, ho, ⟨rfl, rfl, rfl⟩, rfl, ?_, ?_, ?_⟩, ?_, all2_reps (fun v x hv => repK_rep X hv) h3⟩
    · intro e he
      have he : e ∈ [e1, e2] := by simpa using he
      rcases List.mem_cons.mp he with rfl | he
      · exact ⟨"t", by rw [q1]; rfl, h2.1⟩
      · rcases List.mem_singleton.mp he with rfl
        exact ⟨"u", by rw [q2]; rfl, h2.2⟩
    · exact .cons (by rw [q1]; rfl) rfl (.cons (by rw [q2]; rfl) rfl .nil)
    · exact (by decide : [("t" : Str), "u"].Nodup)
    · exact (by decide : [("t" : Str).cps.toList, ("u" : Str).cps.toList] = toldTab.map (·.1))

/-- builtins' names the evaluator reads: not among the module's names -/
noncomputable def biNames : List Str := ["len", "tuple", "list", "sum", "sorted", "range", "int", "str", "bool", "isinstance"].map Str.ofString
noncomputable def freeOk (K : Frag) : Bool := biNames.all fun n => isNoneB (nsIn K mainGlobals n)
/-- the module's own names -/
noncomputable def globOk (K : Frag) : Bool := ((List.range 22).all fun i => match fnNames[i]? with | some (none, n) => isRefB (nsIn K mainGlobals n) (fnAddr K i) | _ => true) &&
  ((List.range 2).all fun c => match clsNames[c]? with | some n => isRefB (nsIn K mainGlobals n) (clsAddr K c) | _ => true) && isRefB (nsIn K mainGlobals "_law_told") (toldA K) && (toldA K != sysModules)

structure KOk (w : World) (K : Frag) : Prop where
  texts : fnTexts K = declTexts
  side : fnSide K = true
  c0 : clsOk K 0 = true
  c1 : clsOk K 1 = true
  keys : toldKeys K = some [some ("t" : Str), some ("u" : Str)]
  hash : toldHash K = some [PyData.keyHash w.params "t", PyData.keyHash w.params "u"]
  vals : toldVals K = true
  free : freeOk K = true
  glob : globOk K = true
  nolist : (K.all fun p => match p.2.data with | .seq .. => !isTyB (some p.2.cls) "list" | _ => true) = true

theorem fnOf?_some {f : Str} {i : Nat} (h : fnOf? f = some i) : i < 22 ∧ fnNames[i]? = some (none, f) := by
  unfold fnOf? at h
  dsimp only at h
  split at h
  · rename_i q
    cases h
    exact ⟨q, by rw [List.getElem?_eq_getElem q, List.getElem_idxOf q]⟩
  · cases h
theorem clsOf?_some {f : Str} {i : Nat} (h : clsOf? f = some i) : i < 2 ∧ clsNames[i]? = some f := by
  unfold clsOf? at h
  dsimp only at h
  split at h
  · rename_i q
    cases h
    exact ⟨q, by rw [List.getElem?_eq_getElem q, List.getElem_idxOf q]⟩
  · cases h

theorem biOf_some {f : Str} {b : Bi} (h : biOf f = some b) : f ∈ biNames ∧ f ≠ "__name__" ∧ bootBuiltins f = some b.val := by
  unfold biOf at h
  split at h
  · rename_i q; rw [eq_of_beq q]; cases h; exact ⟨by decide, by decide, by decide +kernel⟩
  split at h
  · rename_i q; rw [eq_of_beq q]; cases h; exact ⟨by decide, by decide, by decide +kernel⟩
  split at h
  · rename_i q; rw [eq_of_beq q]; cases h; exact ⟨by decide, by decide, by decide +kernel⟩
  split at h
  · rename_i q; rw [eq_of_beq q]; cases h; exact ⟨by decide, by decide, by decide +kernel⟩
  split at h
  · rename_i q; rw [eq_of_beq q]; cases h; exact ⟨by decide, by decide, by decide +kernel⟩
  split at h
  · rename_i q; rw [eq_of_beq q]; cases h; exact ⟨by decide, by decide, by decide +kernel⟩
  split at h
  · rename_i q; rw [eq_of_beq q]; cases h; exact ⟨by decide, by decide, by decide +kernel⟩
  · cases h
theorem tyOf_some {f : Str} {b : Ty} (h : tyOf f = some b) : f ∈ biNames ∧ f ≠ "__name__" ∧ bootBuiltins f = some (.type b.nm) := by
  unfold tyOf at h
  split at h
  · rename_i q; rw [eq_of_beq q]; cases h; exact ⟨by decide, by decide, by decide +kernel⟩
  split at h
  · rename_i q; rw [eq_of_beq q]; cases h; exact ⟨by decide, by decide, by decide +kernel⟩
  split at h
  · rename_i q; rw [eq_of_beq q]; cases h; exact ⟨by decide, by decide, by decide +kernel⟩
  split at h
  · rename_i q; rw [eq_of_beq q]; cases h; exact ⟨by decide, by decide, by decide +kernel⟩
  · cases h

theorem text_of {prog : Program} {w : World} {K : Frag} {base : Heap} {script : Addr} {vals : List Value} {nums : List Int} {mg mb : Str → Option Value} (k : KOk w K) (X : K.In base) (G : base.Ns mainGlobals mg) (B : base.Ns builtinsNs mb)
    (hb : ∀ x : Str, x ≠ "__name__" → mb x = bootBuiltins x) (nl : base.NoLimit) (sy : ∃ o, base.get? sysModules = some o) (hs : IsL base script vals.toArray 0) (hi : ∀ {ad : Ads}, Reps ad [] base vals (nums.map .int)) : Text prog w (adOf K script vals nums) base K mg mb := by
  have hg := k.glob
  unfold globOk at hg
  simp only [Bool.and_eq_true, List.all_eq_true] at hg
  obtain ⟨⟨⟨g1, g2⟩, g3⟩, g4⟩ := hg
  have hf : ∀ {f}, f ∈ biNames → mg f = none := fun {f} hm => mg_none_of X G (isNoneB_eq (List.all_eq_true.mp k.free f hm))
  have hcl : ∀ c, c < 2 → clsOk K c = true := fun c hc => by
    match c, hc with
    | 0, _ => exact k.c0
    | 1, _ => exact k.c1
  refine ⟨told_of X k.keys k.hash k.vals (by simpa using g4) sy hs hi, nl, X, G, B, fun f i e => ?_, fun f c e => ?_, mg_of X G (isRefB_eq g3), fun f b e => ?_, fun f t e => ?_, ?_, fun i d e => fnAt_of X k.texts k.side e,
    fun c hc => (clsAt_of k.side (hcl c hc)).1, fun i d e => keep_of k.side (declOk_of e).1, fun c hc => (clsAt_of k.side (hcl c hc)).2⟩
  · obtain ⟨hi, e'⟩ := fnOf?_some e
    have q := g1 i (List.mem_range.mpr hi)
    rw [e'] at q
    exact mg_of X G (isRefB_eq q)
  · obtain ⟨hi, e'⟩ := clsOf?_some e
    have q := g2 c (List.mem_range.mpr hi)
    rw [e'] at q
    exact mg_of X G (isRefB_eq q)
  · obtain ⟨h1, h2, h3⟩ := biOf_some e
    exact ⟨hf h1, (hb f h2).trans h3⟩
  · obtain ⟨h1, h2, h3⟩ := tyOf_some e
    exact ⟨hf h1, (hb f h2).trans h3⟩
  · exact ⟨hf (by decide), (hb _ (by decide)).trans (by decide +kernel)⟩
end Ab

end
section
set_option maxRecDepth 100000
namespace Ab
open PySem PySem.W PySem.Calls PyProof.Rows PySem.Spec

theorem fn21_body {ps : Arguments} {body : List Stmt} {scope : Scope} (e : decl 21 = some (ps, body, scope)) : fn21.1.body = body.map (trS 20 scope) := by
  obtain ⟨f, h⟩ := fn21
  unfold FT at h
  rw [e] at h
  cases h
  rfl

theorem wxs_out {n : Nat} {b : List PS} {ρ : Loc} {σ : Store} {P : Fl → Loc → Store → Prop} (h : WXs n b ρ σ P) : ∃ fl ρ' σ', execs (exec n) b ρ σ = some (fl, ρ', σ') ∧ P fl ρ' σ' := by
  unfold WXs W3 at h
  split at h
  · rename_i a b c q
    exact ⟨_, _, _, q, h⟩
  · cases h

theorem ints_reps0 {ad : Ads} {h : Heap} {φ : List Addr} : ∀ {vs : List Value} {l : List Int}, IntsAre vs l → Reps ad φ h vs (l.map .int)
  | _, _, .nil => .nil
  | _, _, .cons n t r => .cons (.int n t) (ints_reps0 r)

theorem law_main {prog : Program} {w : World} {K : Frag} {mg mb : Str → Option Value} {h : Heap} {s : Shared} {script L fa : Addr} {cd : Value} {name : Str} {vs : List Value} {ns : List Int} {body : List Stmt} {scope : Scope}
    {A : Around} {E : Value → Shared → Prop} {Q : Flow → Shared → Prop} {m : Str → Option Value}
    (e : (decl 21).map (fun d => (d.2.1, d.2.2)) = some (body, scope)) (k : KOk w K) (X : K.In h) (G : h.Ns mainGlobals mg) (B : h.Ns builtinsNs mb) (hb : ∀ x : Str, x ≠ "__name__" → mb x = bootBuiltins x) (nl : h.NoLimit) (sy : h.NoSeer)
    (hs : IsL h script vs.toArray 0) (hi : IntsAre vs ns) (hl : ns.length ≤ 63) (F : Fr h L s.heap m) (hm : m "script" = some (.ref script)) (HA : AOk 300 A)
    (hsc : scope.kind = .function ∧ (scope.names.all fun p => decide (p.2 = .local) || decide (p.2 = .globalImplicit)) = true)
    (q : ∀ s', (∀ b o, h.get? b = some o → s'.heap.get? b = some o) → s'.os = s.os → s'.gens = s.gens → Q (.ret (.bool true)) s') :
    wpAny (model prog w) A (PySem.execs body (envOf name scope L fa cd)) Q E s := by
  obtain ⟨ps, e⟩ : ∃ ps, decl 21 = some (ps, body, scope) := by
    obtain ⟨d, e1, e2⟩ := Option.map_eq_some_iff.mp e
    cases e2
    exact ⟨_, e1⟩
  have sy' : ∃ o, h.get? sysModules = some o := by
    obtain ⟨mm, ⟨o, es, ep, ho, _⟩, _⟩ := sy.mods
    exact ⟨o, ho⟩
  have T := text_of (prog := prog) (script := script) (vals := vs) (nums := ns) k X G B hb nl sy' hs (ints_reps0 hi)
  obtain ⟨fl, ρ', σ', he, hfl⟩ := wxs_out (law_ok ns hl)
  subst hfl
  rw [fn21_body e] at he
  have hLn : h.get? L = none := by
    cases q : h.get? L with
    | none => rfl
    | some o => exact absurd (Heap.lt_size q) (Nat.not_lt.mpr F.above)
  have hall := List.all_eq_true.mp hsc.2
  have hk : ∀ x nk, scope.names.lookup x = some nk → nk = .local ∨ nk = .globalImplicit := fun x nk hx => by
    have hm2 : (x, nk) ∈ scope.names := lookup_mem hx
    have := hall _ hm2
    simpa using this
  have Fm0 : Fm (adOf K script vs ns) h scope (bindAll [21] [.frz ns] fun _ => none) (envOf name scope L fa cd) [] s.heap := by
    refine ⟨hsc.1, fun x hx => hx, fun x hx => hx, fun x hx => hx, fun x hx => ?_, rfl, rfl, ⟨by simp, hLn⟩, ⟨m, F.ns, fun x v hx hloc hv => ?_⟩, fun x c hc => (by cases hc), fun x hx => ?_, fun x y c hc => (by cases hc)⟩
    · rcases hk x _ hx with q | q <;> cases q
    · have hx21 : nm x = 21 ∧ v = .frz ns := by
        simp only [bindAll, upd] at hv
        split at hv
        · rename_i e1; cases hv; exact ⟨e1, rfl⟩
        · cases hv
      have : x = "script" := by
        have h1 := hx21.1
        have h2 : nm ("script" : Str) = 21 := by decide
        exact nm_inj hx (by decide) (h1.trans h2.symm)
      subst this
      rw [hx21.2]
      exact ⟨_, hm, .frz⟩
    · rcases hx with hx | hx <;> rcases hk x _ hx with q | q <;> cases q
  have I0 : Inv prog w (adOf K script vs ns) h [] [] s.heap := ⟨F.keep, rfl, List.nodup_nil, fun a ha => (by cases ha), fun i c a hc => (by cases hc)⟩
  refine run_sound T he Fm0 I0 HA fun s' φ' f x F' hf => ?_
  obtain ⟨val, rfl, r⟩ := hf
  cases r
  exact q s' x.inv.stay x.os x.gens
end Ab

end
section
set_option maxRecDepth 100000
namespace Ab
open PySem PySem.W PySem.Calls PyProof.Rows

noncomputable section
/-! forcing: rebuild a datum in constructor form ahead of going on -/
noncomputable def brk {α : Type} (a : α) : α := a
noncomputable def fNat {β : Type} (n : Nat) (k : Nat → β) : β := @Nat.rec (fun _ => β) (k 0) (fun m _ => k (Nat.succ m)) n
theorem fNat_eq {β : Type} (n : Nat) (k : Nat → β) : fNat n k = k n := by cases n <;> rfl
noncomputable def fOpt {α β : Type} (f : α → (α → β) → β) (o : Option α) (k : Option α → β) : β := @Option.rec α (fun _ => β) (k none) (fun a => f a fun b => k (some b)) o
theorem fOpt_eq {α β : Type} {f : α → (α → β) → β} (hf : ∀ a k, f a k = k a) (o : Option α) (k : Option α → β) : fOpt f o k = k o := by
  cases o with
  | none => rfl
  | some a => exact hf a _
noncomputable def fList {α β : Type} (f : α → (α → β) → β) (l : List α) : (List α → β) → β :=
  @List.rec α (fun _ => (List α → β) → β) (fun k => k []) (fun a _ ih k => f a fun b => brk ih fun r => k (b :: r)) l
theorem fList_eq {α β : Type} {f : α → (α → β) → β} (hf : ∀ a k, f a k = k a) : ∀ (l : List α) (k : List α → β), fList f l k = k l
  | [], k => rfl
  | a :: l, k => (hf a _).trans (fList_eq hf l _)
noncomputable def fArr {α β : Type} (f : α → (α → β) → β) (a : Array α) (k : Array α → β) : β := @Array.rec α (fun _ => β) (fun l => fList f l fun r => k (Array.mk r)) a
theorem fArr_eq {α β : Type} {f : α → (α → β) → β} (hf : ∀ a k, f a k = k a) (a : Array α) (k : Array α → β) : fArr f a k = k a := by
  obtain ⟨l⟩ := a
  exact fList_eq hf l _
noncomputable def fId {α β : Type} (a : α) (k : α → β) : β := k a
noncomputable def fVal {β : Type} (v : Value) (k : Value → β) : β := @Value.rec (fun _ => β) (k .none) (k .ellipsis) (k .notImplemented) (fun b => k (.bool b)) (fun i t => k (.int i t)) (fun b t => k (.float b t)) (fun s t => k (.str s t))
  (fun b t => k (.bytes b t)) (fun n => k (.type n)) (fun n => k (.builtin n)) (fun a => fNat a fun b => k (.ref b)) v
theorem fVal_eq {β : Type} (v : Value) (k : Value → β) : fVal v k = k v := by
  cases v <;> first | rfl | exact fNat_eq _ (fun b => k (.ref b))
noncomputable def fEnt {β : Type} (e : DictEntry) (k : DictEntry → β) : β := @DictEntry.rec (fun _ => β) (fun h x v => fVal x fun x' => fVal v fun v' => k ⟨h, x', v'⟩) e
theorem fEnt_eq {β : Type} (e : DictEntry) (k : DictEntry → β) : fEnt e k = k e := by
  obtain ⟨h, x, v⟩ := e
  exact (fVal_eq x fun x' => fVal v fun v' => k ⟨h, x', v'⟩).trans (fVal_eq v _)
noncomputable def fFun {β : Type} (f : FuncData) (k : FuncData → β) : β := @FuncData.rec (fun _ => β) (fun a b c d e g cl df kd dc pm an cd ct bl => k ⟨a, b, c, d, e, g, cl, df, kd, dc, pm, an, cd, ct, bl⟩) f
theorem fFun_eq {β : Type} (f : FuncData) (k : FuncData → β) : fFun f k = k f := by cases f; rfl
noncomputable def fCls {β : Type} (c : ClassData) (k : ClassData → β) : β := @ClassData.rec (fun _ => β) (fun n bs m ns q hd sl sb ab co de => fList fVal bs fun bs' => fList fVal m fun m' => fNat ns fun ns' => fList fId sl fun sl' => fList fVal sb fun sb' => k ⟨n, bs', m', ns', q, hd, sl', sb', ab, co, de⟩) c
theorem fCls_eq {β : Type} (c : ClassData) (k : ClassData → β) : fCls c k = k c := by
  obtain ⟨n, bs, m, ns, q, hd, sl, sb, ab, co, de⟩ := c
  exact (fList_eq fVal_eq bs fun bs' => fList fVal m fun m' => fNat ns fun ns' => fList fId sl fun sl' => fList fVal sb fun sb' => k ⟨n, bs', m', ns', q, hd, sl', sb', ab, co, de⟩).trans
    ((fList_eq fVal_eq m fun m' => fNat ns fun ns' => fList fId sl fun sl' => fList fVal sb fun sb' => k ⟨n, bs, m', ns', q, hd, sl', sb', ab, co, de⟩).trans
    ((fNat_eq ns fun ns' => fList fId sl fun sl' => fList fVal sb fun sb' => k ⟨n, bs, m, ns', q, hd, sl', sb', ab, co, de⟩).trans
    ((fList_eq (f := fId) (fun _ _ => rfl) sl fun sl' => fList fVal sb fun sb' => k ⟨n, bs, m, ns, q, hd, sl', sb', ab, co, de⟩).trans (fList_eq fVal_eq sb fun sb' => k ⟨n, bs, m, ns, q, hd, sl, sb', ab, co, de⟩))))
noncomputable def fDat {β : Type} (d : Data) (k : Data → β) : β := @Data.rec (fun _ => β) (k .plain) (fun v => fVal v fun v' => k (.prim v')) (fun xs n => fArr fVal xs fun xs' => fNat n fun n' => k (.seq xs' n')) (fun es n => fArr fEnt es fun es' => fNat n fun n' => k (.dict es' n'))
  (fun es n t => k (.set es n t)) (fun b n => k (.bytearray b n)) (fun v => fOpt fVal v fun v' => k (.cell v')) (fun f => fFun f fun f' => k (.func f')) (fun c => fCls c fun c' => k (.cls c')) (fun vs => fArr fVal vs fun vs' => k (.fields vs')) (k .freed) d
theorem fDat_eq {β : Type} (d : Data) (k : Data → β) : fDat d k = k d := by
  cases d with
  | plain | freed | set | bytearray => rfl
  | prim v => exact fVal_eq v (fun v' => k (.prim v'))
  | seq xs n => exact (fArr_eq fVal_eq xs fun xs' => fNat n fun n' => k (.seq xs' n')).trans (fNat_eq _ _)
  | dict es n => exact (fArr_eq fEnt_eq es fun es' => fNat n fun n' => k (.dict es' n')).trans (fNat_eq _ _)
  | cell v => exact fOpt_eq fVal_eq v (fun v' => k (.cell v'))
  | func f => exact fFun_eq f (fun f' => k (.func f'))
  | cls c => exact fCls_eq c (fun c' => k (.cls c'))
  | fields vs => exact fArr_eq fVal_eq vs (fun vs' => k (.fields vs'))
noncomputable def fObj {β : Type} (o : Obj) (k : Obj → β) : β := @Obj.rec (fun _ => β) (fun c d x s => fVal c fun c' => fOpt fNat d fun d' => fDat x fun x' => fArr (fOpt fVal) s fun s' => k ⟨c', d', x', s'⟩) o
theorem fObj_eq {β : Type} (o : Obj) (k : Obj → β) : fObj o k = k o := by
  obtain ⟨c, d, x, s⟩ := o
  exact (fVal_eq c fun c' => fOpt fNat d fun d' => fDat x fun x' => fArr (fOpt fVal) s fun s' => k ⟨c', d', x', s'⟩).trans ((fOpt_eq fNat_eq d fun d' => fDat x fun x' => fArr (fOpt fVal) s fun s' => k ⟨c, d', x', s'⟩).trans
    ((fDat_eq x fun x' => fArr (fOpt fVal) s fun s' => k ⟨c, d, x', s'⟩).trans (fArr_eq (fOpt_eq fVal_eq) s fun s' => k ⟨c, d, x, s'⟩)))
noncomputable def fTree {β : Type} (t : BT) : (BT → β) → β := @BT.rec (fun _ => (BT → β) → β) (fun k => k .nil) (fun v _ _ l r k => fObj v fun v' => brk l fun l' => brk r fun r' => k (.node v' l' r')) t
theorem fTree_eq {β : Type} : ∀ (t : BT) (k : BT → β), fTree t k = k t
  | .nil, _ => rfl
  | .node v l r, k => (fObj_eq v fun v' => fTree l fun l' => fTree r fun r' => k (.node v' l' r')).trans ((fTree_eq l fun l' => fTree r fun r' => k (.node v l' r')).trans (fTree_eq r fun r' => k (.node v l r')))
noncomputable def fDrawn {β : Type} (d : Drawn) (k : Drawn → β) : β := @Drawn.rec (fun _ => β) (fun a b c d => fNat a fun a => fNat b fun b => fNat c fun c => fNat d fun d => k ⟨a, b, c, d⟩) d
theorem fDrawn_eq {β : Type} (d : Drawn) (k : Drawn → β) : fDrawn d k = k d := by
  obtain ⟨a, b, c, d⟩ := d
  exact (fNat_eq a fun a => fNat b fun b => fNat c fun c => fNat d fun d => k ⟨a, b, c, d⟩).trans ((fNat_eq b fun b => fNat c fun c => fNat d fun d => k ⟨a, b, c, d⟩).trans ((fNat_eq c fun c => fNat d fun d => k ⟨a, b, c, d⟩).trans (fNat_eq d fun d => k ⟨a, b, c, d⟩)))
noncomputable def fSt {β : Type} (s : SharedT) (k : SharedT → β) : β := @SharedT.rec (fun _ => β) (fun t n lf gs d tk os => fTree t fun t' => fNat n fun n' => fArr fId gs fun gs' => fDrawn d fun d' => fNat tk fun tk' => k ⟨t', n', lf, gs', d', tk', os⟩) s
theorem fSt_eq {β : Type} (s : SharedT) (k : SharedT → β) : fSt s k = k s := by
  obtain ⟨t, n, lf, gs, d, tk, os⟩ := s
  exact (fTree_eq t fun t' => fNat n fun n' => fArr fId gs fun gs' => fDrawn d fun d' => fNat tk fun tk' => k ⟨t', n', lf, gs', d', tk', os⟩).trans ((fNat_eq n fun n' => fArr fId gs fun gs' => fDrawn d fun d' => fNat tk fun tk' => k ⟨t, n', lf, gs', d', tk', os⟩).trans
    ((fArr_eq (f := fId) (fun _ _ => rfl) gs fun gs' => fDrawn d fun d' => fNat tk fun tk' => k ⟨t, n, lf, gs', d', tk', os⟩).trans ((fDrawn_eq d fun d' => fNat tk fun tk' => k ⟨t, n, lf, gs, d', tk', os⟩).trans (fNat_eq tk fun tk' => k ⟨t, n, lf, gs, d, tk', os⟩))))

/-! the run, over the library's twins -/
noncomputable abbrev stepQ : (Code → Sem Fin) → Program → World → SharedT → Thread → Option (SharedT × Thread) := PySem.W.Fast.tw10156331382660048174
noncomputable abbrev okQ : Nat → Option Value → Thread → Bool := PySem.W.Fast.tw6613529449190102663
noncomputable abbrev denQ : Code → Sem Fin := PySem.W.Fast.tw11892475500146522536 PySem.W.Fast.tw14364793385576792824
noncomputable def runF (p : Program) (w : World) (n₀ : Nat) (ann : Option Value) (c : Nat) (n : Nat) : SharedT → Thread → Option SharedT :=
  @Nat.rec (fun _ => SharedT → Thread → Option SharedT) (fun _ _ => none) (fun m ih s t =>
    @Bool.rec (fun _ => Option SharedT) (@Bool.rec (fun _ => Option SharedT) none
      (@Option.rec (SharedT × Thread) (fun _ => Option SharedT) none (fun r => @Prod.rec SharedT Thread (fun _ => Option SharedT) (fun s' t' =>
        @Bool.rec (fun _ => Option SharedT) (brk ih s' t') (fSt s' fun s'' => brk ih s'' t') (Nat.beq (Nat.mod m c) 0)) r) (stepQ denQ p w s t)) (okQ n₀ ann t)) (fSt s some) (through t)) n
theorem runF_spec {p : Program} {w : World} {n₀ : Nat} {ann : Option Value} {c : Nat} : ∀ {n : Nat} {s s' : SharedT} {t : Thread}, runF p w n₀ ann c n s t = some s' → topRun treeTable p w n₀ ann n s.abs t = some s'.abs
  | 0, _, _, _, h => by cases h
  | n + 1, s, s', t, h => by
    have e : runF p w n₀ ann c (n + 1) s t = @Bool.rec (fun _ => Option SharedT) (@Bool.rec (fun _ => Option SharedT) none
      (@Option.rec (SharedT × Thread) (fun _ => Option SharedT) none (fun r => @Prod.rec SharedT Thread (fun _ => Option SharedT) (fun s' t' =>
        @Bool.rec (fun _ => Option SharedT) (runF p w n₀ ann c n s' t') (fSt s' fun s'' => runF p w n₀ ann c n s'' t') (Nat.beq (Nat.mod n c) 0)) r) (stepQ denQ p w s t)) (okQ n₀ ann t)) (fSt s some) (through t) := rfl
    rw [e] at h
    unfold topRun
    cases ht : through t with
    | true =>
      rw [ht] at h
      exact congrArg (Option.map SharedT.abs) ((fSt_eq s some).symm.trans h)
    | false =>
      rw [ht] at h
      have hq : okQ n₀ ann t = stepOk n₀ ann t := (congrFun (congrFun (congrFun PySem.W.Fast.te6613529449190102663 n₀) ann) t).symm
      cases hk : stepOk n₀ ann t with
      | false => rw [hq, hk] at h; cases h
      | true =>
        rw [hq, hk] at h
        have hst : stepQ denQ p w s t = stepT (denote treeTable) p w s t := by
          show PySem.W.Fast.tw10156331382660048174 (PySem.W.Fast.tw11892475500146522536 PySem.W.Fast.tw14364793385576792824) p w s t = _
          rw [← PySem.W.Fast.te10156331382660048174, ← PySem.W.Fast.te11892475500146522536, ← PySem.W.Fast.te14364793385576792824]
        rw [hst] at h
        cases hs : stepT (denote treeTable) p w s t with
        | none => rw [hs] at h; cases h
        | some r =>
          obtain ⟨s₂, t₂⟩ := r
          rw [hs] at h
          rw [stepT_spec hs]
          have h2 : runF p w n₀ ann c n s₂ t₂ = some s' := by
            revert h
            show @Bool.rec (fun _ => Option SharedT) (runF p w n₀ ann c n s₂ t₂) (fSt s₂ fun s'' => runF p w n₀ ann c n s'' t₂) (Nat.beq (Nat.mod n c) 0) = some s' → _
            cases Nat.beq (Nat.mod n c) 0 with
            | false => exact id
            | true => intro h; exact (fSt_eq s₂ _).symm.trans h
          exact runF_spec h2
end
end Ab

end
section
set_option maxRecDepth 100000
namespace Ab
open PySem PySem.W PySem.Calls PyProof.Rows
noncomputable section
noncomputable def btOf : List Obj → Nat → BT → BT
  | [], _, t => t
  | o :: l, n, t => btOf l (n + 1) (t.ins n o)
noncomputable def S0 (w : World) (os : OsState) : SharedT := ⟨btOf (boot_heap w.params).objs.toList 0 .nil, 11, (boot_heap w.params).life, Array.mk [], boot_drawn, boot_toks, os⟩
theorem S0_abs : (fun w os => (S0 w os).abs) = fun w os => ⟨boot_heap w.params, Array.mk [], boot_drawn, boot_toks, os⟩ := by kernel_rfl
theorem size0 : (fun P => ((boot_heap P).isNs mainGlobals, (boot_heap P).objs.size, (boot_heap P).nsMap mainGlobals "__annotations__")) = fun _ => (true, 11, some (.ref 6)) := by kernel_rfl

theorem left_of {p q : Program} {loose : List Str} {Xt : Shared → Bool} {α : Type} {Yf : Shared → α} {Ya : World → α} {N M : Nat} {g0 : Bool}
    (open_ : ∀ w : World, (fencedOpening treeTable p w N).map (fun s => (s.heap, s.gens, s.drawn, s.toks)) = some (boot_heap w.params, Array.mk [], boot_drawn, boot_toks))
    (run : ∀ (w : World) (os : OsState), ∃ s₁, topRun treeTable p w 11 (some (.ref 6)) M ⟨boot_heap w.params, Array.mk [], boot_drawn, boot_toks, os⟩ (topStub p) = some s₁ ∧
      (staticsOk (importedModules p.main.body) (boot_heap w.params) s₁.heap && namesBound p s₁.heap && gensDone s₁ && laidKept (boot_heap w.params) s₁.heap) = true ∧
      openSeen q loose (importedModules p.main.body) Xt g0 s₁ = openGood q loose ∧ Yf s₁ = Ya w) (le : Nat.ble M N = true) : LeftO p q loose Xt Yf Ya N g0 := fun w => by
  obtain ⟨⟨h, gs, d, k, os⟩, e, e'⟩ := Option.map_eq_some_iff.mp (open_ w)
  obtain ⟨rfl, rfl, rfl, rfl⟩ : h = boot_heap w.params ∧ gs = Array.mk [] ∧ d = boot_drawn ∧ k = boot_toks := by simpa using e'
  obtain ⟨z1, z2, z3⟩ : _ ∧ _ ∧ _ := by simpa only [Prod.mk.injEq] using congrFun size0 w.params
  obtain ⟨s₁, r, l1, l2, l3⟩ := run w os
  have r := topRun_mono (N - M) _ _ _ _ r
  rw [show M + (N - M) = N by have := Nat.le_of_ble_eq_true le; omega] at r
  have t : topFrom treeTable p w N ⟨boot_heap w.params, Array.mk [], boot_drawn, boot_toks, os⟩ = some s₁ := by
    unfold topFrom
    dsimp only
    rw [z1, z2, z3, r]
    show (match staticsOk (importedModules p.main.body) (boot_heap w.params) s₁.heap && namesBound p s₁.heap && gensDone s₁ && laidKept (boot_heap w.params) s₁.heap with | true => _ | false => _) = _
    rw [l1]
  unfold openEnds
  rw [e]
  show (topFrom treeTable p w N _).map _ = _
  rw [t]
  exact congrArg some (Prod.ext l2 l3)

/-! the hook: the ten facts off the heap that the top leaves -/
noncomputable def fragAll (h : Heap) : Frag := ((List.range h.objs.size).filterMap fun a => (h.get? a).map fun o => (a, o)).filter fun p => match p.2.data with | .seq .. => !isTyB (some p.2.cls) "list" | _ => true
theorem lookup_memN {β : Type} {a : Addr} {o : β} : ∀ {l : List (Addr × β)}, l.lookup a = some o → (a, o) ∈ l
  | [], h => by cases h
  | (b, p) :: l, h => by
    rw [List.lookup_cons] at h
    cases q : a == b with
    | true => rw [q] at h; cases h; rw [beq_iff_eq.mp q]; exact .head _
    | false => rw [q] at h; exact .tail _ (lookup_memN h)
theorem fragAll_in (h : Heap) : (fragAll h).In h := fun a o e => by
  have hm : (a, o) ∈ fragAll h := lookup_memN e
  have hm := (List.mem_filter.mp hm).1
  obtain ⟨b, _, hb⟩ := List.mem_filterMap.mp hm
  obtain ⟨o', ho, e2⟩ := Option.map_eq_some_iff.mp hb
  cases e2
  exact ho
noncomputable def fPr {β : Type} (x : Addr × Obj) (k : Addr × Obj → β) : β := @Prod.rec Addr Obj (fun _ => β) (fun a o => fNat a fun a' => k (a', o)) x
theorem fPr_eq {β : Type} (x : Addr × Obj) (k : Addr × Obj → β) : fPr x k = k x := by
  obtain ⟨a, o⟩ := x
  exact fNat_eq a fun a' => k (a', o)
noncomputable abbrev FT6 := List (Option (FuncBody × Scope × Arguments × Addr × Addr × List (Str × Addr)))
noncomputable def kObs (K : Frag) : FT6 × Bool × Option (List (Option Str)) × Option (List Int) :=
  (fnTexts K, fnSide K && clsOk K 0 && clsOk K 1 && toldVals K && freeOk K && globOk K, toldKeys K, toldHash K)
noncomputable def lawHook : Hook where
  α := FT6 × Bool × Option (List (Option Str)) × Option (List Int)
  obs s := fList fPr (fragAll s.heap) kObs
  val w := (declTexts, true, some [some ("t" : Str), some ("u" : Str)], some [PyData.keyHash w.params "t", PyData.keyHash w.params "u"])
  says w h := ∃ K, KOk w K ∧ K.In h
  of w s e := by
    rw [fList_eq fPr_eq] at e
    unfold kObs at e
    simp only [Prod.mk.injEq, Bool.and_eq_true] at e
    obtain ⟨e1, ⟨⟨⟨⟨⟨e2, e3⟩, e4⟩, e5⟩, e6⟩, e7⟩, e8, e9⟩ := e
    refine ⟨fragAll s.heap, ⟨e1, e2, e3, e4, e8, e9, e5, e6, e7, ?_⟩, fragAll_in _⟩
    unfold fragAll
    rw [List.all_filter, List.all_eq_true]
    intro p _
    exact Bool.not_or_self _
  keeps w h h' x k := let ⟨K, a, b⟩ := x; ⟨K, a, b.keeps k⟩

noncomputable abbrev pw : Program := PySem.Challenge.pw_rg0117_01
noncomputable def qV : Program := view pw [32]
noncomputable def looseL : List Str := pw.main.scope.names.filterMap fun x => if x.2 == .local && x.1 != Str.ofString "law" && x.1 != Str.ofString "__name__" then some x.1 else none
noncomputable def XtL (s : Shared) : Bool := xlAt qV [] s && recOk [] s
noncomputable def hlook (w : World) (s : Shared) := ((staticsOk (importedModules pw.main.body) (boot_heap w.params) s.heap && namesBound pw s.heap && gensDone s && laidKept (boot_heap w.params) s.heap),
  PySem.W.Fast.tw4187177175401517315 qV looseL (importedModules pw.main.body) XtL true s, lawHook.obs s)
noncomputable def hchk (w : World) (os : OsState) := @Option.rec SharedT (fun _ => Option (Bool × (_ × _))) none (fun s => fList fObj (s.tree.list s.n) fun l => some (hlook w ⟨⟨Array.mk l, s.life⟩, s.gens, s.drawn, s.toks, s.os⟩))
  (runF pw w 11 (some (.ref 6)) 1024 2500 (S0 w os) (topStub pw))
end

theorem hchk_f : (fun (w : World) os => hchk (w.withFollow "special-get-raises" false) os) = fun w _ => some (true, openGood qV looseL, lawHook.val (w.withFollow "special-get-raises" false)) := by kernel_rfl
theorem hchk_t : (fun (w : World) os => hchk (w.withFollow "special-get-raises" true) os) = fun w _ => some (true, openGood qV looseL, lawHook.val (w.withFollow "special-get-raises" true)) := by kernel_rfl
end Ab

end
section
open PySem PySem.W PyProof.Rows
namespace Ab
theorem well_list {P : Params} {h : Heap} {a : Addr} {vs : List Value} {l : List PyData} (W : Well P h (.ref a) (ofPy (.list l))) (L : h.IsList a vs.toArray) : IsL h a vs.toArray 0 := by
  obtain ⟨xs, hx⟩ : ∃ xs, ofPy (.list l) = .list xs := ⟨_, by rw [ofPy]⟩
  rw [hx] at W
  cases W with
  | list e _ =>
    obtain ⟨o, ho, hc, n, hd⟩ := L
    rw [e] at ho
    cases ho
    cases hd
    exact e
theorem aok_law {env : Env} : AOk 300 (callerA.deeper env) := ⟨rfl, Nat.le_of_ble_eq_true (by kernel_rfl), Nat.le_of_ble_eq_true (by kernel_rfl)⟩
theorem said_ok : PySem.Challenge.rw_rg0117_01.wellSaid = true := by
  rw [PySem.W.Fast.te9446332074065402090]
  kernel_rfl
theorem hrun (w : World) : ∀ os, hchk w os = some (true, openGood qV looseL, lawHook.val w) :=
  byRow2 (P := fun w => ∀ os, hchk w os = some (true, openGood qV looseL, lawHook.val w)) "special-get-raises" (fun w os => congrFun (congrFun hchk_f w) os) (fun w os => congrFun (congrFun hchk_t w) os) w
theorem open_pw : ∀ w : World, (fencedOpening treeTable pw w 4868).map (fun s => (s.heap, s.gens, s.drawn, s.toks)) = some (boot_heap w.params, Array.mk [], boot_drawn, boot_toks) :=
  boot_open (p := pw) (N := 4868) (by kernel_rfl) (by kernel_rfl) (fun s => by kernel_rfl)
theorem left_pw : LeftO pw qV looseL XtL lawHook.obs lawHook.val 4868 := left_of open_pw (fun w os => by
  have h := hrun w os
  unfold hchk at h
  cases e : runF pw w 11 (some (.ref 6)) 1024 2500 (S0 w os) (topStub pw) with
  | none => rw [e] at h; cases h
  | some s =>
    rw [e] at h
    have h2 : fList fObj (s.tree.list s.n) (fun l => some (hlook w ⟨⟨Array.mk l, s.life⟩, s.gens, s.drawn, s.toks, s.os⟩)) = some (true, openGood qV looseL, lawHook.val w) := h
    rw [fList_eq fObj_eq] at h2
    have h3 : hlook w s.abs = (true, openGood qV looseL, lawHook.val w) := Option.some.inj h2
    unfold hlook at h3
    rw [← PySem.W.Fast.te4187177175401517315] at h3
    simp only [Prod.mk.injEq] at h3
    have r := runF_spec e
    have hs := congrFun (congrFun S0_abs w) os
    rw [hs] at r
    exact ⟨s.abs, r, h3.1, h3.2.1, h3.2.2⟩) (by kernel_rfl)
end Ab

end
open PySem PySem.W PyProof.Rows
local macro_rules | `(tactic| k_qdec) => `(tactic| decide +kernel)
set_option maxRecDepth 100000 in
set_option maxHeartbeats 8000000 in
theorem PySem.Challenge.cw_rg0117_01_holds : PySem.Challenge.rw_rg0117_01.Holds := by
  w_on
  refine holds_law Ab.said_ok fun said => ?_
  refine holds_open (q := Ab.qV) (loose := Ab.looseL) (Xt := Ab.XtL) (XP := XL Ab.qV []) (Yf := Ab.lawHook.obs) (Ya := Ab.lawHook.val) (YP := Ab.lawHook.says) (N := 4868) Ab.left_pw Ab.lawHook.of Ab.lawHook.keeps
    (fun s e => xl_of s (Bool.and_eq_true_iff.mp e).1) XL.keeps (by rfl) (by rfl) (by rfl) (fun s e => recFacts_of (Bool.and_eq_true_iff.mp e).2) (by rfl) (by first | assumption | decide +kernel) (by decide +kernel) ⟨rfl, rfl, rfl, rfl, rfl, by decide +kernel⟩ ?hw ?hc
  case hw => w_witness2
  w_strict (
    intro w s₀ s₁ mg mb G Y fa o pm cd doc dV kV ho hd hcd hD hmg hg args vals as hpre hlay hrd hwl hlo
    obtain ⟨K, kok, KX⟩ := Y
    k_behind G ho hd hcd hD hmg hpre hlay hrd hwl hlo cd
    have GL := ‹Glob _ _ _ _ _ _ _ _›
    have hI := ‹IntsAre _ _›
    have W1 := ‹Well _ _ (.ref _) _›
    have hL := ‹Heap.IsList _ _ _›
    have F := ‹Fr _ _ _ _›
    refine Ab.law_main (by kernel_rfl) kok KX GL.g GL.b GL.builtins GL.nolimit GL.seer
      (Ab.well_list W1 hL) hI (by omega) F rfl Ab.aok_law ⟨rfl, by kernel_rfl⟩ (fun s' h1 h2 h3 => ?_)
    exact ⟨.inl ⟨_, .bool true, [], rfl, fun _ => by rfl, .bool true, by kernel_rfl, fun _ => ⟨List.nodup_nil, fun a ha => nomatch ha⟩⟩, h1, h2, h3.trans (by assumption)⟩)
