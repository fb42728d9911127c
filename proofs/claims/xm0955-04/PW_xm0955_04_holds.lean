import PyProof.Rows.All
import Wide.All
import OpenK.AllK
import KE.KLam
import Wide.FinOn
import PySem.Challenge.RW_xm0955_04
set_option Elab.async false
set_option genSizeOf false
set_option genInjectivity false
open PySem PySem.W PyProof.Rows PySem.Calls
namespace Mine
set_option autoImplicit false
set_option backward.match.sparseCases false
set_option linter.unusedVariables false

/-! ## values, objects, terms -/
inductive Bi where
  | len | isinstance | range | list | abs | int | tuple
  deriving DecidableEq

inductive MV where
  | none
  | bool (b : Bool)
  | int (i : Int)
  | str (l : List Nat)
  | tup (vs : List MV)
  | ref (i : Nat)
  | fn (k : Nat)
  | cls (k : Nat)
  | bi (b : Bi)
  | rng (a n : Nat)
  | lam (k : Nat)
  | bl (xs : List MV)
  | ab (M r : Nat)
  | md (M r : Nat)
  | chr (c : Nat)
  | emp
  | any

/-- one sign, told as a text -/
noncomputable def MV.wk : MV → MV
  | .chr c => .str [c]
  | .emp => .str []
  | v => v
/-- an iterator: what is left -/
inductive It where
  | rng (a n : Nat)
  | str (l : List Nat) (k : Nat) (r : List Nat)
  | lst (i k : Nat)

noncomputable abbrev Names := List (Str × NameKind)

inductive MO where
  | list (xs : List MV)
  | inst (k : Nat) (ats : List (Nat × MV))
  | dict (kvs : List (List Nat × MV))
  | cell (v : Option MV)

/-- the slot of a name of a comprehension -/
inductive CS where
  | loc
  | out (j : Nat)
  | glb (g : Nat)
  deriving DecidableEq

inductive Cst where
  | none | bool (b : Bool) | int (i : Int) | str (l : List Nat) | emp

/-- the attribute names -/
noncomputable def anL : List Str := ["values", "limit", "refused", "width", "steps", "log", "kind", "owner", "key", "node", "append", "pop", "get", "join", "replace", "index", "count", "step", "assign", "value_of"]
noncomputable def an (a : Nat) : Str := anL.getD a "values"

noncomputable def Names.at (ns : Names) (i : Nat) : Str := (ns.map (·.1)).getD i "values"
/-- a code that is made within another one -/
structure Cd where
  name : Str
  qual : Str
  params : Arguments
  body : List Stmt
  scope : Scope
  pos : Pos
/-- the codes that the program makes within its functions, read off the given row -/
noncomputable def pgm : Program := PySem.Challenge.rw_xm0955_04.row.toRowW.prog
noncomputable def noSt : Stmt := .Pass ⟨0, 0, 0, 0⟩
noncomputable def bodyOf : Stmt → List Stmt
  | .FunctionDef _ _ b _ _ _ _ _ _ _ => b
  | _ => []
noncomputable def cdSt (q : Str) : Stmt → Cd
  | .FunctionDef n a b _ _ _ s _ _ p => ⟨n, q, a, b, s, p⟩
  | _ => ⟨"", q, { posonlyargs := [], args := [], vararg := none, kwonlyargs := [], kw_defaults := [], kwarg := none, defaults := [] }, [], { kind := .function, names := [], isGenerator := false, isCoroutine := false }, ⟨0, 0, 0, 0⟩⟩
noncomputable def inSt (i j : Nat) : Stmt := ((bodyOf ((pgm.main.body[i]?).getD noSt))[j]?).getD noSt
noncomputable def bodyOf2 : Stmt → List Stmt
  | .FunctionDef _ _ b _ _ _ _ _ _ _ => b
  | .While _ b _ _ => b
  | .For _ _ b _ _ => b
  | _ => []
noncomputable def noEx : Expr := .Constant .none 0 ⟨0, 0, 0, 0⟩
noncomputable def valOf : Stmt → Expr
  | .Assign _ v _ => v
  | _ => noEx
noncomputable def argOf (j : Nat) : Expr → Expr
  | .Call _ as _ _ => (as[j]?).getD noEx
  | _ => noEx
noncomputable def cdLam (q : Str) : Expr → Cd
  | .Lambda a _ s p => ⟨"<lambda>", q, a, [], s, p⟩
  | _ => cdSt q noSt
noncomputable def cdL : List Cd := [cdLam "_law_edges.<locals>.<lambda>" (argOf 5 (valOf (((bodyOf2 (inSt 59 1))[2]?).getD noSt))), cdLam "law.<locals>.<lambda>" (argOf 5 (valOf (((bodyOf2 (inSt 60 6))[7]?).getD noSt)))]
noncomputable def cdAt (k : Nat) : Cd := cdL.getD k { name := "", qual := "", params := { posonlyargs := [], args := [], vararg := none, kwonlyargs := [], kw_defaults := [], kwarg := none, defaults := [] }, body := [], scope := { kind := .function, names := [], isGenerator := false, isCoroutine := false }, pos := ⟨0, 0, 0, 0⟩ }
/-- the lambdas whose body is a constant, at the places of their codes in cdL -/
noncomputable def lamL : List (Option (Cst × Nat × Pos)) := [some (.emp, 0, ⟨305, 79, 305, 81⟩), some (.emp, 0, ⟨331, 81, 331, 83⟩)]
noncomputable def lamOf (k : Nat) : Option (Cst × Nat × Pos) := (lamL[k]?).getD none
noncomputable def noLam : Option (Cst × Nat × Pos) → Bool
  | some _ => false
  | none => true
/-- the global names that comprehensions read -/
noncomputable def gnL : List Str := ["abs", "int", "len", "range", "_law_number", "Pattern", "_law_one_of", "_law_orders", "match_plain", "PlainHost", "_law_deed"]
/-- the names of the comprehensions -/
noncomputable def nmL : List Names := [[(".0", .local), ("one", .local), ("abs", .globalImplicit), ("int", .globalImplicit)],
  [(".0", .local), ("at", .local), ("cells", .free)],
  [(".0", .local), ("one", .local)],
  [(".0", .local), ("one", .local), ("len", .globalImplicit), ("size", .free)],
  [(".0", .local), ("one", .local), ("_law_number", .globalImplicit), ("number", .free)],
  [(".0", .local), ("a", .local), ("b", .local)],
  [(".0", .local), ("sign", .local), ("whole", .free), ("word", .free)],
  [(".0", .local), ("row", .local), ("len", .globalImplicit), ("at", .free)],
  [(".0", .local), ("at", .local), ("len", .globalImplicit), ("cells", .free), ("letters", .free)],
  [(".0", .local), ("letter", .local), ("edges", .free)],
  [(".0", .local), ("one", .local), ("rest", .local), ("_law_orders", .globalImplicit), ("players", .free)],
  [(".0", .local), ("player", .local)],
  [(".0", .local), ("player", .local), ("Pattern", .globalImplicit), ("_law_one_of", .globalImplicit), ("beaten", .free)],
  [(".0", .local), ("one", .local), ("match_plain", .globalImplicit), ("PlainHost", .globalImplicit), ("node", .free), ("values", .free)]]
noncomputable def nmAt (u : Nat) : Names := nmL.getD u []
/-- the names of the functions that hold comprehensions; the last one is not a name of the program -/
noncomputable def nsL : List Names := [[("script", .local), ("usual", .local), ("cells", .cell), ("size", .cell), ("row", .local), ("turn", .local), ("number", .cell), ("later", .local), ("up", .local), ("down", .local), ("len", .globalImplicit), ("range", .globalImplicit), ("_law_number", .globalImplicit), ("_law_deed", .globalImplicit), ("any", .globalImplicit), ("%n", .local)],
  [("script", .local), ("usual", .local), ("cells", .local), ("rest", .local), ("word", .cell), ("told", .local), ("whole", .cell), ("sign", .local), ("tables", .local), ("other", .local), ("turned", .local), ("columns", .local), ("at", .cell), ("len", .globalImplicit), ("_law_tables", .globalImplicit), ("range", .globalImplicit), ("%n", .local)],
  [("word", .local), ("rows", .local), ("marks", .local), ("at", .local), ("sign", .local), ("level", .local), ("row", .local), ("enumerate", .globalImplicit), ("len", .globalImplicit), ("_law_put", .globalImplicit), ("sorted", .globalImplicit), ("list", .globalImplicit), ("any", .globalImplicit), ("zip", .globalImplicit), ("%n", .local)],
  [("script", .local), ("usual", .local), ("cells", .cell), ("letters", .cell), ("code", .local), ("edges", .cell), ("told", .local), ("left", .local), ("turn", .local), ("letter", .local), ("due", .local), ("least", .local), ("beside", .local), ("node", .local), ("host", .local), ("len", .globalImplicit), ("range", .globalImplicit), ("_law_edges", .globalImplicit), ("NameRef", .globalImplicit), ("PlainHost", .globalImplicit), ("replace_once", .globalImplicit), ("match_plain", .globalImplicit), ("%n", .local), ("%d", .local)],
  [("script", .local), ("usual", .local), ("cells", .local), ("players", .local), ("row", .local), ("at", .local), ("player", .local), ("beaten", .cell), ("second", .local), ("first", .local), ("pair", .local), ("values", .cell), ("node", .cell), ("found", .local), ("len", .globalImplicit), ("dict", .globalImplicit), ("range", .globalImplicit), ("_law_one_of", .globalImplicit), ("_law_put", .globalImplicit), ("match_plain", .globalImplicit), ("PlainHost", .globalImplicit), ("_law_orders", .globalImplicit), ("%n", .local)],
  [("players", .cell), ("%n", .local)]]
noncomputable def nsAt (w : Nat) : Names := nsL.getD w []
noncomputable def csOne (ns : Names) (x : Str) (k : NameKind) : CS → Bool
  | .loc => k == .local
  | .out j => k == .free && x == ns.at j
  | .glb g => k == .globalImplicit && gnL[g]? == some x
noncomputable def csB (ns : Names) : Names → List CS → Bool
  | [], [] => true
  | p :: nm, c :: cs => csOne ns p.1 p.2 c && csB ns nm cs
  | _, _ => false
noncomputable def ndB2 : List Str → Bool
  | [] => true
  | x :: xs => !xs.contains x && ndB2 xs
/-- what a comprehension assigns to -/
inductive CTg where
  | one (i : Nat) (p : Pos)
noncomputable def CTg.ix : CTg → List Nat
  | .one i _ => [i]
noncomputable def CTg.ok (cs : List CS) : CTg → Bool
  | .one i _ => cs[i]? == some .loc
noncomputable def CTg.er (ns : Names) : CTg → Expr
  | .one i p => .Name (ns.at i) p
noncomputable def csOkB (u w : Nat) (ct : CTg) (cs : List CS) : Bool :=
  csB (nsAt w) (nmAt u) cs && ndB2 ((nmAt u).map (·.1)) && ((nmAt u).all fun p => !(p.1 == ("__debug__" : Str)) && !(p.1 == ("__classdict__" : Str))) && ct.ok cs
mutual
inductive E where
  | name (i : Nat) (p : Pos)
  | cst (c : Cst) (k : Nat) (p : Pos)
  | tup (es : List E) (k : Nat) (p : Pos)
  | list (es : List E) (p : Pos)
  | dict0 (p : Pos)
  | sub (e i : E) (p : Pos)
  | slc (e : E) (lo hi st : Option E) (sp p : Pos)
  | attr (e : E) (a : Nat) (p : Pos)
  | bin (l : E) (op : Operator) (r : E) (p : Pos)
  | neg (e : E) (p : Pos)
  | not (e : E) (p : Pos)
  | boo (op : BoolOp) (es : List E) (p : Pos)
  | cmp (l : E) (op : CmpOp) (r : E) (p : Pos)
  | ite (t b o : E) (p : Pos)
  | call (i : Nat) (np : Pos) (as : List E) (p : Pos)
  | meth (o : E) (a : Nat) (as : List E) (ap p : Pos) (h : ap.endLine = p.line)
  | comp (elt : E) (ct : CTg) (it : E) (ifs : List E) (u w jn : Nat) (cs : List CS) (sc : Scope) (h : csOkB u w ct cs = true ∧ sc.names = nmAt u ∧ sc.kind = .function) (p : Pos)
  | lam (j k : Nat) (p : Pos)
  | raw (e : Expr)

inductive T where
  | name (i : Nat) (p : Pos)
  | tup (ts : List T) (k : Nat) (p : Pos)
  | attr (o : E) (a : Nat) (p : Pos)
  | sub (o i : E) (p : Pos)
end

inductive S where
  | asg (t : T) (e : E) (p : Pos)
  | swp (is : List (Nat × Pos)) (tk : Nat) (tp : Pos) (es : List E) (ek : Nat) (ep : Pos) (p : Pos)
  | augA (o : E) (a : Nat) (tp : Pos) (op : Operator) (e : E) (p : Pos)
  | iff (t : E) (b o : List S) (p : Pos)
  | whl (t : E) (b : List S) (p : Pos)
  | fr (t : T) (it : E) (b : List S) (p : Pos)
  | ret (e : E) (p : Pos)
  | brk (p : Pos)
  | ex (e : E) (p : Pos)
  | raw (st : Stmt)


noncomputable def Cst.er : Cst → Const
  | .none => .none
  | .bool b => .bool b
  | .int i => .int i
  | .str l => .str ⟨l.toArray⟩
  | .emp => .str ⟨[].toArray⟩

noncomputable def lamX (c : Cst × Nat × Pos) : Expr := .Constant c.1.er c.2.1 c.2.2
mutual
noncomputable def E.er (ns : Names) : E → Expr
  | .name i p => .Name (ns.at i) p
  | .cst c k p => .Constant c.er k p
  | .tup es k p => .Tuple (E.ers ns es) k p
  | .list es p => .List (E.ers ns es) p
  | .dict0 p => .Dict [] [] p
  | .sub e i p => .Subscript (e.er ns) (i.er ns) p
  | .slc e lo hi st sp p => .Subscript (e.er ns) (.Slice (E.ero ns lo) (E.ero ns hi) (E.ero ns st) sp) p
  | .attr e a p => .Attribute (e.er ns) (an a) p
  | .bin l op r p => .BinOp (l.er ns) op (r.er ns) p
  | .neg e p => .UnaryOp .USub (e.er ns) p
  | .not e p => .UnaryOp .Not (e.er ns) p
  | .boo op es p => .BoolOp op (E.ers ns es) p
  | .cmp l op r p => .Compare (l.er ns) [op] [r.er ns] p
  | .ite t b o p => .IfExp (t.er ns) (b.er ns) (o.er ns) p
  | .call i np as p => .Call (.Name (ns.at i) np) (E.ers ns as) [] p
  | .meth o a as ap p _ => .Call (.Attribute (o.er ns) (an a) ap) (E.ers ns as) [] p
  | .comp elt ct it ifs u _ _ _ sc _ p => .ListComp (elt.er (nmAt u)) [⟨ct.er (nmAt u), it.er ns, E.ers (nmAt u) ifs, 0⟩] sc p
  | .lam _ k p => .Lambda (cdAt k).params (lamX ((lamOf k).getD (.none, 0, p))) (cdAt k).scope (cdAt k).pos
  | .raw e => e
noncomputable def E.ers (ns : Names) : List E → List Expr
  | [] => []
  | e :: es => e.er ns :: E.ers ns es
noncomputable def E.ero (ns : Names) : Option E → Option Expr
  | none => none
  | some e => some (e.er ns)
noncomputable def T.er (ns : Names) : T → Expr
  | .name i p => .Name (ns.at i) p
  | .tup ts k p => .Tuple (T.ers ns ts) k p
  | .attr o a p => .Attribute (o.er ns) (an a) p
  | .sub o i p => .Subscript (o.er ns) (i.er ns) p
noncomputable def T.ers (ns : Names) : List T → List Expr
  | [] => []
  | t :: ts => t.er ns :: T.ers ns ts
end
noncomputable def swpTs (ns : Names) : List (Nat × Pos) → List Expr
  | [] => []
  | p :: ps => .Name (ns.at p.1) p.2 :: swpTs ns ps
mutual
noncomputable def S.er (ns : Names) : S → Stmt
  | .asg t e p => .Assign [t.er ns] (e.er ns) p
  | .swp is tk tp es ek ep p => .Assign [.Tuple (swpTs ns is) tk tp] (.Tuple (E.ers ns es) ek ep) p
  | .augA o a tp op e p => .AugAssign (.Attribute (o.er ns) (an a) tp) op (e.er ns) p
  | .iff t b o p => .If (t.er ns) (S.ers ns b) (S.ers ns o) p
  | .whl t b p => .While (t.er ns) (S.ers ns b) [] p
  | .fr t it b p => .For (t.er ns) (it.er ns) (S.ers ns b) [] p
  | .ret e p => .Return (some (e.er ns)) p
  | .brk p => .Break p
  | .ex e p => .Expr (e.er ns) p
  | .raw st => st
noncomputable def S.ers (ns : Names) : List S → List Stmt
  | [] => []
  | s :: ss => s.er ns :: S.ers ns ss
end

/-! ## the interpreter -/
inductive Slot where
  | loc (v : Option MV)
  | glb (v : MV)
  | cel (k : Nat)
  | fre (k : Nat)
  | nst (i k : Nat) (cs : List Nat)
  | nid (w : Nat)
  | unk

/-- a slot as a function is entered -/
inductive FS where
  | loc
  | glb (v : MV)
  | nst (i k : Nat) (cs : List Nat)
  | nid (w : Nat)
  | unk
structure Fn where
  np : Nat
  slots : List FS
  body : List S

structure Cl where
  ini : Option Nat
  meths : List (Nat × Nat)

inductive Fl where
  | next | brk | ret (v : MV)

/-! written with the recursors: the kernel is quicker at them -/
noncomputable def eqL (x : List Nat) : List Nat → Bool := List.rec (motive := fun _ => List Nat → Bool) (fun y => List.rec true (fun _ _ _ => false) y) (fun a _ ih y => List.rec false (fun b bs _ => Bool.rec false (ih bs) (Nat.beq a b)) y) x
noncomputable def memN (c : Nat) (x : List Nat) : Bool := List.rec false (fun a _ ih => Bool.rec ih true (Nat.beq a c)) x
noncomputable def lkN {α : Type} (k : Nat) (l : List (Nat × α)) : Option α := List.rec none (fun p _ ih => Bool.rec ih (some p.2) (Nat.beq p.1 k)) l
noncomputable def lkS {α : Type} (k : List Nat) (l : List (List Nat × α)) : Option α := List.rec none (fun p _ ih => Bool.rec ih (some p.2) (eqL p.1 k)) l
noncomputable def putN (k : Nat) (v : MV) (l : List (Nat × MV)) : List (Nat × MV) := List.rec [(k, v)] (fun p r ih => Bool.rec (p :: ih) ((k, v) :: r) (Nat.beq p.1 k)) l
noncomputable def hasS (k : List Nat) : List (List Nat × MV) → Bool
  | [] => false
  | p :: r => eqL p.1 k || hasS k r
noncomputable def mapS (k : List Nat) (v : MV) : List (List Nat × MV) → List (List Nat × MV)
  | [] => []
  | p :: r => cond (eqL p.1 k) (p.1, v) p :: mapS k v r
noncomputable def putS (k : List Nat) (v : MV) (kvs : List (List Nat × MV)) : List (List Nat × MV) := cond (hasS k kvs) (mapS k v kvs) (kvs ++ [(k, v)])
noncomputable def at? {α : Type} (l : List α) : Nat → Option α := List.rec (motive := fun _ => Nat → Option α) (fun _ => none) (fun a _ ih n => Nat.rec (motive := fun _ => Option α) (some a) (fun m _ => ih m) n) l
/-- an index of nought or more, in bounds -/
noncomputable def nth {α : Type} (l : List α) (i : Int) : Option α := match i with
  | .ofNat n => cond (Nat.ble n 4096) (at? l n) none
  | .negSucc _ => none
noncomputable def setAt {α : Type} (v : α) (l : List α) : Nat → List α := List.rec (motive := fun _ => Nat → List α) (fun _ => []) (fun a l ih n => Nat.rec (motive := fun _ => List α) (v :: l) (fun m _ => a :: ih m) n) l
noncomputable def lenOk (n : Nat) : Bool := Nat.ble n 4096

noncomputable def r0 {α : Type} (σ : List MO) (v : α) : Option (α × List MO) := some (v, σ)
noncomputable def newL (σ : List MO) (xs : List MV) : Option (MV × List MO) := cond (lenOk xs.length) (some (.ref σ.length, σ ++ [.list xs])) none
noncomputable def addLL (σ : List MO) (xs : List MV) : Option MO → Option (MV × List MO)
  | some (.list ys) => newL σ (xs ++ ys)
  | _ => none
noncomputable def addL (σ : List MO) (b : MV) : Option MO → Option (MV × List MO)
  | some (.list xs) => (match b with | .ref j => addLL σ xs (at? σ j) | _ => none)
  | _ => none
noncomputable def bAdd (σ : List MO) : MV → MV → Option (MV × List MO)
  | .int x, b => (match b with | .int y => r0 σ (.int (x + y)) | _ => none)
  | .str x, b => (match b with | .str y => cond (lenOk (x.length + y.length)) (r0 σ (.str (x ++ y))) none | _ => none)
  | .ref i, b => addL σ b (at? σ i)
  | _, _ => none
noncomputable def bII (σ : List MO) (f : Int → Int → Option Int) : MV → MV → Option (MV × List MO)
  | .int x, b => (match b with | .int y => (f x y).bind fun z => r0 σ (.int z) | _ => none)
  | _, _ => none
noncomputable def posI (f : Int → Int → Int) (x : Int) : Int → Option Int
  | .ofNat (n + 1) => cond (lenOk (n + 1)) (some (f x (.ofNat (n + 1)))) none
  | _ => none
noncomputable def powI (x : Int) : Int → Option Int
  | .ofNat n => cond (Nat.ble n 16) (cond (Nat.ble x.natAbs 16) (some (x ^ n)) none) none
  | _ => none
noncomputable def mdDiv (σ : List MO) (M r : Nat) : MV → Option (MV × List MO)
  | .int (.ofNat (d + 1)) => cond (lenOk (d + 1) && Nat.beq (M % (d + 1)) 0) (r0 σ (.md (M / (d + 1)) (r / (d + 1)))) none
  | _ => none
noncomputable def mdMod (σ : List MO) (M r : Nat) : MV → Option (MV × List MO)
  | .int (.ofNat (d + 1)) => cond (Nat.beq (M % (d + 1)) 0) (r0 σ (.int (Int.ofNat (r % (d + 1))))) none
  | _ => none
noncomputable def bDiv (σ : List MO) : MV → MV → Option (MV × List MO)
  | .md M r, b => mdDiv σ M r b
  | a, b => bII σ (posI Int.fdiv) a b
noncomputable def bMod (σ : List MO) : MV → MV → Option (MV × List MO)
  | .md M r, b => mdMod σ M r b
  | a, b => bII σ (posI Int.fmod) a b
noncomputable def binop (σ : List MO) : Operator → MV → MV → Option (MV × List MO)
  | .Add => bAdd σ
  | .Sub => bII σ fun x y => some (x - y)
  | .FloorDiv => bDiv σ
  | .Mod => bMod σ
  | .Pow => bII σ powI
  | _ => fun _ _ => none
noncomputable def iop : Operator → MV → MV → Option MV
  | .Add => fun a b => (match a with | .int x => (match b with | .int y => some (.int (x + y)) | _ => none) | _ => none)
  | _ => fun _ _ => none
noncomputable def anyStr (x : List Nat) : List MV → Option Bool
  | [] => some false
  | .str y :: r => (anyStr x r).bind fun b => some (eqL y x || b)
  | .chr c :: r => (anyStr x r).bind fun b => some (eqL [c] x || b)
  | _ :: _ => none
noncomputable def isNone : MV → Option Bool
  | .none => some true
  | .str _ => some false
  | .chr _ => some false
  | .emp => some false
  | .int _ => some false
  | .tup _ => some false
  | _ => none
noncomputable def cIs : MV → MV → Option Bool
  | a, .none => isNone a
  | _, _ => none
noncomputable def cEq (σ : List MO) : MV → MV → Option Bool
  | .str x, b => (match b with | .str y => some (eqL x y) | _ => none)
  | .int x, b => (match b with | .int y => some (decide (x = y)) | _ => none)
  | .tup _, b => (match b with | .str _ => some false | _ => none)
  | _, _ => none
noncomputable def cNe (σ : List MO) : MV → MV → Option Bool
  | .str x, b => (match b with | .str y => some (!eqL x y) | _ => none)
  | .int x, b => (match b with | .int y => some (!decide (x = y)) | _ => none)
  | _, _ => none
noncomputable def cInt (f : Int → Int → Bool) : MV → MV → Option Bool
  | .int x, b => (match b with | .int y => some (f x y) | _ => none)
  | _, _ => none
noncomputable def one : List Nat → Option Nat
  | [c] => some c
  | _ => none
noncomputable def cInR (x : List Nat) : Option MO → Option Bool
  | some (.list vs) => anyStr x vs
  | _ => none
noncomputable def cIn (σ : List MO) : MV → MV → Option Bool
  | .str x, b => (match b with
    | .tup vs => anyStr x vs
    | .str y => (one x).map fun c => memN c y
    | .ref i => cInR x (at? σ i)
    | _ => none)
  | _, _ => none
noncomputable def cmpop (σ : List MO) : CmpOp → MV → MV → Option Bool
  | .Is => cIs
  | .IsNot => fun a b => (cIs a b).map (!·)
  | .Eq => cEq σ
  | .NotEq => cNe σ
  | .Lt => cInt fun x y => decide (x < y)
  | .Gt => cInt fun x y => decide (y < x)
  | .In => cIn σ
  | .NotIn => fun a b => (cIn σ a b).map (!·)
  | _ => fun _ _ => none

noncomputable def subsR : Option MO → MV → Option MV
  | some (.list xs), b => (match b with | .int i => nth xs i | _ => none)
  | some (.dict kvs), b => (match b with | .str x => lkS x kvs | _ => none)
  | _, _ => none
noncomputable def subs (σ : List MO) : MV → MV → Option MV
  | .tup vs, b => (match b with | .int i => nth vs i | _ => none)
  | .str l, b => (match b with | .int i => (nth l i).map fun c => .chr c | _ => none)
  | .ref k, b => subsR (at? σ k) b
  | _, _ => none

/-- a part of a slice: None or an int of nought or more -/
noncomputable def part : MV → Option (Option Nat)
  | .none => some none
  | .int i => (match i with | .ofNat n => some (some n) | .negSucc _ => none)
  | _ => none
noncomputable def cut {α : Type} (l : List α) (lo hi : Option Nat) : List α :=
  ((match hi with | some n => l.take n | none => l).drop (lo.getD 0))

noncomputable def itR (k : Nat) : Option MO → Option It
  | some (.list _) => some (.lst k 0)
  | _ => none
noncomputable def It.of (σ : List MO) : MV → Option It
  | .rng a n => cond (lenOk (a + n)) (some (.rng a n)) none
  | .str l => some (.str l 0 l)
  | .ref i => itR i (at? σ i)
  | _ => none
noncomputable def nextR (i k : Nat) : Option MO → Option (Option (MV × It))
  | some (.list xs) => (match at? xs k with
      | some v => some (some (v, .lst i (k + 1)))
      | none => some none)
  | _ => none
noncomputable def nextG (a : Nat) : Nat → Option (MV × It)
  | n + 1 => some (.int (a : Int), .rng (a + 1) n)
  | 0 => none
noncomputable def nextS (l : List Nat) (k : Nat) : List Nat → Option (MV × It)
  | c :: r => some (.chr c, .str l (k + 1) r)
  | [] => none
noncomputable def It.next (σ : List MO) : It → Option (Option (MV × It))
  | .rng a n => some (nextG a n)
  | .str l k r => some (nextS l k r)
  | .lst i k => nextR i k (at? σ i)

structure Rec where
  n : Nat
  e : E → List Slot → List MO → Option (MV × List MO)
  es : List E → List Slot → List MO → Option (List MV × List MO)
  eo : Option E → List Slot → List MO → Option (MV × List MO)
  t : E → List Slot → List MO → Option (Bool × List MO)
  ts : BoolOp → List E → List Slot → List MO → Option (Bool × List MO)
  a : T → MV → List Slot → List MO → Option (List Slot × List MO)
  as : List T → List MV → List Slot → List MO → Option (List Slot × List MO)
  s : S → List Slot → List MO → Option (Fl × List Slot × List MO)
  ss : List S → List Slot → List MO → Option (Fl × List Slot × List MO)
  wh : E → List S → List Slot → List MO → Option (Fl × List Slot × List MO)
  fr : T → It → List S → List Slot → List MO → Option (Fl × List Slot × List MO)
  co : E → CTg → List E → It → Nat → List Slot → List MO → Option (List MO)
  call : MV → List MV → List MO → Option (MV × List MO)

noncomputable def Rec.nil : Rec where
  n := 0
  e := fun _ _ _ => none
  es := fun _ _ _ => none
  eo := fun _ _ _ => none
  t := fun _ _ _ => none
  ts := fun _ _ _ _ => none
  a := fun _ _ _ _ => none
  as := fun _ _ _ _ => none
  s := fun _ _ _ => none
  ss := fun _ _ _ => none
  wh := fun _ _ _ _ => none
  fr := fun _ _ _ _ _ => none
  co := fun _ _ _ _ _ _ _ => none
  call := fun _ _ _ => none

noncomputable def Cst.mv : Cst → MV
  | .none => .none
  | .bool b => .bool b
  | .int i => .int i
  | .str l => .str l
  | .emp => .emp

noncomputable def notAny : MV → Bool
  | .any => false
  | _ => true
noncomputable def okAny (v : MV) : Option MV := cond (notAny v) (some v) none
/-- the built-in functions and types -/
noncomputable def lenR (σ : List MO) : Option MO → Option (MV × List MO)
  | some (.list xs) => cond (lenOk xs.length) (some (.int (xs.length : Int), σ)) none
  | _ => none
noncomputable def bLen (σ : List MO) : MV → Option (MV × List MO)
  | .str l => cond (lenOk l.length) (some (.int (l.length : Int), σ)) none
  | .ref i => lenR σ (at? σ i)
  | _ => none
noncomputable def bIsi (σ : List MO) : MV → MV → Option (MV × List MO)
  | .int _, .bi .tuple => some (.bool false, σ)
  | .str _, .bi .tuple => some (.bool false, σ)
  | _, _ => none
noncomputable def bRange (σ : List MO) : MV → Option (MV × List MO)
  | .int (.ofNat n) => cond (lenOk n) (some (.rng 0 n, σ)) none
  | _ => none
noncomputable def bList (σ : List MO) : MV → Option (MV × List MO)
  | .tup [] => some (.ref σ.length, σ ++ [.list []])
  | _ => none
noncomputable def bAbs (σ : List MO) : MV → Option (MV × List MO)
  | .ab M r => some (.md M r, σ)
  | _ => none
noncomputable def bInt (σ : List MO) : MV → Option (MV × List MO)
  | .ab M r => some (.ab M r, σ)
  | _ => none
noncomputable def a1 (f : MV → Option (MV × List MO)) : List MV → Option (MV × List MO)
  | [a] => f a
  | _ => none
noncomputable def a2 (f : MV → MV → Option (MV × List MO)) : List MV → Option (MV × List MO)
  | [a, b] => f a b
  | _ => none
noncomputable def biCall (b : Bi) (as : List MV) (σ : List MO) : Option (MV × List MO) := match b with
  | .len => a1 (bLen σ) as
  | .range => a1 (bRange σ) as
  | .isinstance => a2 (bIsi σ) as
  | .list => a1 (bList σ) as
  | .abs => a1 (bAbs σ) as
  | .int => a1 (bInt σ) as
  | _ => none

noncomputable def popL : List MV → Option (List MV × MV)
  | [] => none
  | x :: r => (match popL r with
    | some p => some (x :: p.1, p.2)
    | none => some ([], x))
/-- the methods of the built-in types -/
noncomputable def mList (σ : List MO) (i : Nat) (xs : List MV) : Nat → List MV → Option (MV × List MO)
  | 10 => a1 fun v => cond (lenOk xs.length) (some (.none, setAt (.list (xs ++ [v])) σ i)) none
  | 11 => fun as => (match as with
    | [] => cond (lenOk xs.length) ((popL xs).bind fun p => some (p.2, setAt (.list p.1) σ i)) none
    | _ => none)
  | _ => fun _ => none
noncomputable def joinS : List MV → Option (List Nat)
  | [] => some []
  | .str x :: r => (joinS r).bind fun y => some (x ++ y)
  | .chr c :: r => (joinS r).bind fun y => some (c :: y)
  | _ :: _ => none
noncomputable def joinR (σ : List MO) : Option MO → Option (MV × List MO)
  | some (.list xs) => cond (lenOk xs.length) ((joinS xs).bind fun x => cond (lenOk x.length) (some (.str x, σ)) none) none
  | _ => none
noncomputable def join1 (σ : List MO) : MV → Option (MV × List MO)
  | .ref i => joinR σ (at? σ i)
  | _ => none
/-- a sign taken out of a text -/
noncomputable def without (c : Nat) : List Nat → List Nat
  | [] => []
  | d :: r => cond (Nat.beq d c) (without c r) (d :: without c r)
noncomputable def sRepl (σ : List MO) (x : List Nat) : MV → MV → Option (MV × List MO)
  | .chr c, .emp => cond (lenOk x.length) (some (.str (without c x), σ)) none
  | _, _ => none
noncomputable def cntN (c : Nat) : List Nat → Nat
  | [] => 0
  | d :: r => cond (Nat.beq d c) (cntN c r + 1) (cntN c r)
noncomputable def sCount (σ : List MO) (x : List Nat) : MV → Option (MV × List MO)
  | .str y => (one y).bind fun c => some (.int (cntN c x : Int), σ)
  | _ => none
noncomputable def mStr (σ : List MO) (x : List Nat) : Nat → List MV → Option (MV × List MO)
  | 13 => (match x with | [] => a1 (join1 σ) | _ => fun _ => none)
  | 14 => a2 (sRepl σ x)
  | 16 => a1 fun v => sCount σ x v.wk
  | _ => fun _ => none
/-- the method that is meant, told ahead of the arguments -/
inductive Sel where
  | list | str
  | own (f : Nat)
noncomputable def selC (a : Nat) (c : Cl) : Option Sel := (lkN a c.meths).bind fun f => some (.own f)
noncomputable def selI (CT : List Cl) (k a : Nat) : Option MV → Option Sel
  | some _ => none
  | none => (at? CT k).bind (selC a)
noncomputable def selR (CT : List Cl) (a : Nat) : Option MO → Option Sel
  | some (.list _) => cond (Nat.beq a 10 || Nat.beq a 11) (some .list) none
  | some (.inst k ats) => cond (Nat.ble a 19) (selI CT k a (lkN a ats)) none
  | _ => none
noncomputable def mSel (CT : List Cl) (σ : List MO) (a : Nat) : MV → Option Sel
  | .ref i => selR CT a (at? σ i)
  | .str _ => cond (Nat.ble 13 a && Nat.ble a 16) (some .str) none
  | _ => none
noncomputable def apL (σ : List MO) (i a : Nat) (as : List MV) : Option MO → Option (MV × List MO)
  | some (.list xs) => mList σ i xs a as
  | _ => none
noncomputable def apLv (σ : List MO) (a : Nat) (as : List MV) : MV → Option (MV × List MO)
  | .ref i => apL σ i a as (at? σ i)
  | _ => none
noncomputable def apSv (σ : List MO) (a : Nat) (as : List MV) : MV → Option (MV × List MO)
  | .str x => mStr σ x a as
  | _ => none

noncomputable def cellR (σ : List MO) : Option MO → Option (MV × List MO)
  | some (.cell (some v)) => some (v, σ)
  | _ => none
noncomputable def getS (σ : List MO) : Option Slot → Option (MV × List MO)
  | some (.loc (some v)) => some (v, σ)
  | some (.glb v) => some (v, σ)
  | some (.cel k) => cellR σ (at? σ k)
  | some (.fre k) => cellR σ (at? σ k)
  | _ => none
noncomputable def cutR (σ : List MO) (a b : Option Nat) : Option MO → Option (MV × List MO)
  | some (.list xs) => cond (lenOk xs.length) (newL σ (cut xs a b)) none
  | _ => none
noncomputable def cutE (σ : List MO) (lo hi : Option (Option Nat)) : MV → Option (MV × List MO)
  | .str l => cond (lenOk l.length) (lo.bind fun a => hi.bind fun b => some (.str (cut l a b), σ)) none
  | .ref i => lo.bind fun a => hi.bind fun b => cutR σ a b (at? σ i)
  | .bl xs => lo.bind fun a => hi.bind fun b => cond (lenOk xs.length) (newL σ (cut xs a b)) none
  | _ => none
/-- a text from behind -/
noncomputable def revE (σ : List MO) (k : MV) : MV → Option (MV × List MO)
  | .str l => (match k with | .int (.negSucc 0) => cond (lenOk l.length) (some (.str l.reverse, σ)) none | _ => none)
  | _ => none
noncomputable def negE (x : MV × List MO) : Option (MV × List MO) := match x.1 with
  | .int i => some (.int (-i), x.2)
  | _ => none
noncomputable def okBase : E → Bool
  | .slc _ _ _ _ _ _ => true
  | .name _ _ => true
  | .sub _ _ _ => true
  | .attr _ _ _ => true
  | .cst _ _ _ => true
  | _ => false
noncomputable def isCst : E → Bool
  | .cst _ _ _ => true
  | _ => false
noncomputable def isLoc : Option Slot → Bool
  | some (.loc _) => true
  | _ => false
noncomputable def isCel : Option Slot → Bool
  | some (.cel _) => true
  | _ => false
/-- a target that no exchange would take -/
noncomputable def notLoc (sl : List Slot) : T → Bool
  | .name i _ => isCel (at? sl i)
  | .sub _ _ _ => true
  | _ => false
noncomputable def asgB (sl : List Slot) : T → E → Bool
  | .tup ts _ _, .tup es _ _ => es.all isCst || ts.any (notLoc sl)
  | _, .comp _ _ _ _ _ _ _ _ _ _ _ => false
  | _, .raw _ => false
  | _, _ => true
noncomputable def celOf : Slot → Option Nat
  | .cel k => some k
  | .fre k => some k
  | _ => none
noncomputable def cs1 (GV : List (Option MV)) (sl : List Slot) : CS → Option Slot
  | .loc => some (.loc none)
  | .out j => (at? sl j).bind fun x => (celOf x).bind fun k => some (.fre k)
  | .glb g => (at? GV g).bind fun x => x.bind fun v => some (.glb v)
noncomputable def csl (GV : List (Option MV)) (sl : List Slot) : List CS → Option (List Slot)
  | [] => some []
  | c :: cs => (cs1 GV sl c).bind fun x => (csl GV sl cs).bind fun y => some (x :: y)
noncomputable def isNid (w : Nat) : Option Slot → Bool
  | some (.nid w') => Nat.beq w w'
  | _ => false
noncomputable def apnd (ka : Nat) (v : MV) (σ : List MO) : Option MO → Option (List MO)
  | some (.list xs) => cond (lenOk xs.length) (some (setAt (.list (xs ++ [v])) σ ka)) none
  | _ => none
noncomputable def notMethN (a : Nat) (c : Cl) : Bool := match lkN a c.meths with | none => true | some _ => false
noncomputable def notMeth (CT : List Cl) (k a : Nat) : Bool := ((at? CT k).map (notMethN a)).getD false
noncomputable def bndK (σ : List MO) (a : Nat) (c : Cl) : Option (MV × List MO) := (lkN a c.meths).bind fun _ => some (.any, σ)
noncomputable def attrB (CT : List Cl) (σ : List MO) (a : Nat) : Option MO → Option (MV × List MO)
  | some (.inst k ats) => cond (Nat.ble a 19) (match lkN a ats with
      | some v => cond (notMeth CT k a) ((okAny v).bind fun v => some (v, σ)) none
      | none => (at? CT k).bind (bndK σ a)) none
  | _ => none
noncomputable def attrE (CT : List Cl) (σ : List MO) (a : Nat) : MV → Option (MV × List MO)
  | .ref i => attrB CT σ a (at? σ i)
  | _ => none
section
variable (FT : List Fn) (CT : List Cl) (GV : List (Option MV)) (mm : Nat → List MV → List MO → Option ((MV × List MO) × Nat)) (r : Rec)
noncomputable def mApp (sel : Sel) (a : Nat) (v : MV) (as : List MV) (σ : List MO) : Option (MV × List MO) := match sel with
  | .list => apLv σ a (as.map MV.wk) v
  | .str => apSv σ a as v
  | .own f => r.call (.fn f) (v :: as.map MV.wk) σ

noncomputable def eSub (e i : E) (sl : List Slot) (σ : List MO) : Option (MV × List MO) :=
  (r.e e sl σ).bind fun x => (r.e i sl x.2).bind fun y => (subs y.2 x.1.wk y.1.wk).bind fun v => some (v, y.2)
noncomputable def eSlc (e : E) (lo hi st : Option E) (sl : List Slot) (σ : List MO) : Option (MV × List MO) := match st with
  | none => (r.e e sl σ).bind fun x => (r.eo lo sl x.2).bind fun y => (r.eo hi sl y.2).bind fun z => cutE z.2 (part y.1) (part z.1) x.1.wk
  | some e2 => match lo, hi with
    | none, none => (r.e e sl σ).bind fun x => (r.e e2 sl x.2).bind fun y => revE y.2 y.1 x.1.wk
    | _, _ => none
noncomputable def eBin (l : E) (op : Operator) (rr : E) (sl : List Slot) (σ : List MO) : Option (MV × List MO) :=
  (r.e l sl σ).bind fun x => (r.e rr sl x.2).bind fun y => binop y.2 op x.1.wk y.1.wk
noncomputable def eCmp (l : E) (op : CmpOp) (rr : E) (sl : List Slot) (σ : List MO) : Option (Bool × List MO) :=
  (r.e l sl σ).bind fun x => (r.e rr sl x.2).bind fun y => (cmpop y.2 op x.1.wk y.1.wk).bind fun b => some (b, y.2)
noncomputable def eMeth (o : E) (a : Nat) (as : List E) (sl : List Slot) (σ : List MO) : Option (MV × List MO) :=
  (r.e o sl σ).bind fun x => (mSel CT x.2 a x.1.wk).bind fun m => (r.es as sl x.2).bind fun y => mApp r m a x.1.wk y.1 y.2
noncomputable def biAt : Option Slot → Option Bi
  | some (.glb (.bi b)) => some b
  | _ => none
noncomputable def srcG (e : E) (sl : List Slot) (σ : List MO) : Option (It × List MO) := (r.e e sl σ).bind fun x => (It.of x.2 x.1.wk).bind fun t => some (t, x.2)
noncomputable def isNm : T → Bool
  | .name _ _ => true
  | _ => false
noncomputable def eComp (elt : E) (ct : CTg) (it : E) (ifs : List E) (w jn : Nat) (cs : List CS) (sl : List Slot) (σ : List MO) : Option (MV × List MO) :=
  cond (isNid w (at? sl jn)) ((srcG r it sl σ).bind fun x => (csl GV sl cs).bind fun c =>
    (r.co elt ct ifs x.1 x.2.length c (x.2 ++ [.list []])).bind fun y => some (.ref x.2.length, y)) none
noncomputable def eCall (i : Nat) (as : List E) (sl : List Slot) (σ : List MO) : Option (MV × List MO) :=
  (getS σ (at? sl i)).bind fun x => (r.es as sl x.2).bind fun y => r.call x.1 (y.1.map MV.wk) y.2
/-! the match on the code is kept apart from what is walked with: the kernel keeps its answer -/
noncomputable def lamS (k : Nat) (σ : List MO) : Option Slot → Option (MV × List MO)
  | some (.nst _ k' _) => cond (Nat.beq k k' && !noLam (lamOf k)) (some (.lam k, σ)) none
  | _ => none
structure BxE where
  f : Rec → List Slot → List MO → Option (MV × List MO)
noncomputable def fE (e : E) : BxE := match e with
  | .name i _ => ⟨fun r sl σ => getS σ (at? sl i)⟩
  | .cst c _ _ => ⟨fun r sl σ => some (c.mv, σ)⟩
  | .tup es _ _ => ⟨fun r sl σ => (r.es es sl σ).bind fun x => cond (lenOk x.1.length) (some (.tup (x.1.map MV.wk), x.2)) none⟩
  | .list es _ => ⟨fun r sl σ => (r.es es sl σ).bind fun x => newL x.2 (x.1.map MV.wk)⟩
  | .dict0 _ => ⟨fun r sl σ => some (.ref σ.length, σ ++ [.dict []])⟩
  | .sub e i _ => ⟨fun r sl σ => eSub r e i sl σ⟩
  | .slc e lo hi st _ _ => ⟨fun r sl σ => eSlc r e lo hi st sl σ⟩
  | .attr e a _ => ⟨fun r sl σ => cond (okBase e) ((r.e e sl σ).bind fun x => attrE CT x.2 a x.1) none⟩
  | .bin l op rr _ => ⟨fun r sl σ => eBin r l op rr sl σ⟩
  | .neg e _ => ⟨fun r sl σ => (r.e e sl σ).bind negE⟩
  | .not _ _ => ⟨fun r sl σ => none⟩
  | .boo _ _ _ => ⟨fun r sl σ => none⟩
  | .cmp l op rr _ => ⟨fun r sl σ => (eCmp r l op rr sl σ).bind fun x => some (.bool x.1, x.2)⟩
  | .ite t b o _ => ⟨fun r sl σ => (r.t t sl σ).bind fun x => cond x.1 (r.e b sl x.2) (r.e o sl x.2)⟩
  | .call i _ as _ => ⟨fun r sl σ => eCall r i as sl σ⟩
  | .raw _ => ⟨fun r sl σ => none⟩
  | .lam j k _ => ⟨fun r sl σ => lamS k σ (at? sl j)⟩
  | .meth o a as _ _ _ => ⟨fun r sl σ => cond (okBase o && Nat.ble as.length 20) (eMeth CT r o a as sl σ) none⟩
  | .comp elt ct it ifs _ w jn cs _ _ _ => ⟨fun r sl σ => eComp GV r elt ct it ifs w jn cs sl σ⟩
noncomputable def stepE (e : E) (sl : List Slot) (σ : List MO) : Option (MV × List MO) := (fE CT GV e).f r sl σ
structure BxL where
  f : Rec → List Slot → List MO → Option (List MV × List MO)
noncomputable def fEs (es : List E) : BxL := match es with
  | [] => ⟨fun _ _ σ => some ([], σ)⟩
  | e :: es => ⟨fun r sl σ => (r.e e sl σ).bind fun x => (r.es es sl x.2).bind fun y => some (x.1 :: y.1, y.2)⟩
noncomputable def stepEs (es : List E) (sl : List Slot) (σ : List MO) : Option (List MV × List MO) := (fEs es).f r sl σ
noncomputable def stepEo (e : Option E) (sl : List Slot) (σ : List MO) : Option (MV × List MO) := match e with
  | none => some (.none, σ)
  | some e => r.e e sl σ
noncomputable def truth (x : MV × List MO) : Option (Bool × List MO) := match x.1 with
  | .bool b => some (b, x.2)
  | _ => none
structure BxT where
  f : Rec → List Slot → List MO → Option (Bool × List MO)
noncomputable def fT (e : E) : BxT := match e with
  | .not e _ => ⟨fun r sl σ => (r.t e sl σ).bind fun x => some (!x.1, x.2)⟩
  | .boo op es _ => ⟨fun r sl σ => r.ts op es sl σ⟩
  | .cmp l op rr _ => ⟨fun r sl σ => eCmp r l op rr sl σ⟩
  | .ite _ _ _ _ => ⟨fun r sl σ => none⟩
  | e => ⟨fun r sl σ => (r.e e sl σ).bind truth⟩
noncomputable def stepT (e : E) (sl : List Slot) (σ : List MO) : Option (Bool × List MO) := (fT e).f r sl σ
noncomputable def tsN (op : BoolOp) (es : List E) (sl : List Slot) (x : Bool × List MO) : Option (Bool × List MO) := match op with
  | .And => cond x.1 (r.ts op es sl x.2) (some (false, x.2))
  | .Or => cond x.1 (some (true, x.2)) (r.ts op es sl x.2)
noncomputable def tsE : BoolOp → Bool
  | .And => true
  | .Or => false
noncomputable def fTs (op : BoolOp) (es : List E) : BxT := match es with
  | [] => ⟨fun _ _ σ => some (tsE op, σ)⟩
  | e :: es => ⟨fun r sl σ => (r.t e sl σ).bind (tsN r op es sl)⟩
noncomputable def stepTs (op : BoolOp) (es : List E) (sl : List Slot) (σ : List MO) : Option (Bool × List MO) := (fTs op es).f r sl σ
noncomputable def putCell (sl : List Slot) (σ : List MO) (k : Nat) (v : MV) : Option MO → Option (List Slot × List MO)
  | some (.cell _) => some (sl, setAt (.cell (some v)) σ k)
  | _ => none
noncomputable def putSl (i : Nat) (v : MV) (sl : List Slot) (σ : List MO) : Option Slot → Option (List Slot × List MO)
  | some (.loc _) => some (setAt (.loc (some v)) sl i, σ)
  | some (.cel k) => putCell sl σ k v (at? σ k)
  | _ => none
noncomputable def putAt (CT : List Cl) (i a : Nat) (v : MV) (σ : List MO) : Option MO → Option (List MO)
  | some (.inst k ats) => cond (Nat.ble a 19 && Nat.ble ats.length 900) (cond (notMeth CT k a) (some (setAt (.inst k (putN a v ats)) σ i)) none) none
  | _ => none
noncomputable def putA (CT : List Cl) (a : Nat) (v : MV) (σ : List MO) : MV → Option (List MO)
  | .ref i => putAt CT i a v σ (at? σ i)
  | _ => none
noncomputable def putIt (k : Nat) (v : MV) (σ : List MO) (i : MV) : Option MO → Option (List MO)
  | some (.dict kvs) => (match i with
    | .str s => cond (lenOk kvs.length) (some (setAt (.dict (putS s v kvs)) σ k)) none
    | _ => none)
  | _ => none
noncomputable def putI (v : MV) (σ : List MO) (i : MV) : MV → Option (List MO)
  | .ref k => putIt k v σ i (at? σ k)
  | _ => none
noncomputable def asTup (ts : List T) (sl : List Slot) (σ : List MO) : MV → Option (List Slot × List MO)
  | .tup vs => cond (Nat.beq ts.length vs.length) (r.as ts vs sl σ) none
  | _ => none
structure BxA where
  f : Rec → MV → List Slot → List MO → Option (List Slot × List MO)
noncomputable def fA (t : T) : BxA := match t with
  | .name i _ => ⟨fun r v sl σ => putSl i v sl σ (at? sl i)⟩
  | .tup ts _ _ => ⟨fun r v sl σ => asTup r ts sl σ v⟩
  | .attr o a _ => ⟨fun r v sl σ => (r.e o sl σ).bind fun x => (putA CT a v.wk x.2 x.1).bind fun s => some (sl, s)⟩
  | .sub o i _ => ⟨fun r v sl σ => (r.e o sl σ).bind fun x => (r.e i sl x.2).bind fun y => (putI v.wk y.2 y.1.wk x.1).bind fun s => some (sl, s)⟩
noncomputable def stepA (t : T) (v : MV) (sl : List Slot) (σ : List MO) : Option (List Slot × List MO) := (fA CT t).f r v sl σ
noncomputable def stepAs (ts : List T) (vs : List MV) (sl : List Slot) (σ : List MO) : Option (List Slot × List MO) := match ts with
  | [] => (match vs with | [] => some (sl, σ) | _ => none)
  | t :: ts => (match vs with | v :: vs => (r.a t v sl σ).bind fun x => r.as ts vs x.1 x.2 | [] => none)
noncomputable def sAugA (o : E) (a : Nat) (op : Operator) (e : E) (sl : List Slot) (σ : List MO) : Option (Fl × List Slot × List MO) :=
  (r.e o sl σ).bind fun x => (attrE CT x.2 a x.1).bind fun w => (r.e e sl w.2).bind fun y => (iop op w.1 y.1).bind fun v => (putA CT a v y.2 x.1).bind fun s => some (.next, sl, s)
noncomputable def putLoc (i : Nat) (v : MV) (sl : List Slot) : Option Slot → Option (List Slot)
  | some (.loc _) => some (setAt (.loc (some v)) sl i)
  | _ => none
noncomputable def putLocs : List (Nat × Pos) → List MV → List Slot → Option (List Slot)
  | [], vs, sl => (match vs with | [] => some sl | _ => none)
  | p :: ps, vs, sl => (match vs with | v :: vs => (putLoc p.1 v sl (at? sl p.1)).bind fun x => putLocs ps vs x | [] => none)
/-- a value that a fold would not take for one of constants alone -/
noncomputable def ncst : Nat → E → Bool
  | 0, _ => false
  | n + 1, e => (match e with
    | .tup es _ _ => es.any (ncst n)
    | .call _ _ _ _ => true
    | .list _ _ => true
    | .slc _ _ _ _ _ _ => true
    | .meth _ _ _ _ _ _ => true
    | _ => false)
/-- a name that stands in a slot -/
noncomputable def nmS (sl : List Slot) : E → Bool
  | .name i _ => (at? sl i).isSome
  | _ => false
noncomputable def lineOf (is : List (Nat × Pos)) : Nat := (is.head?.map (·.2.line)).getD 0
noncomputable def fromNat (l : List (Nat × Pos)) (n : Nat) : Bool := l.all fun p => !Nat.beq p.1 n
noncomputable def ndB : List (Nat × Pos) → Bool
  | [] => true
  | p :: ps => fromNat ps p.1 && ndB ps
noncomputable def swpB (sl : List Slot) (is : List (Nat × Pos)) (es : List E) : Bool :=
  (Nat.beq is.length 2 || Nat.beq is.length 3) && Nat.beq es.length is.length && (es.any (ncst 8) || es.any (nmS sl)) && is.all (fun p => Nat.beq p.2.line (lineOf is)) && ndB is
noncomputable def allLoc (sl : List Slot) (is : List (Nat × Pos)) : Bool := is.all fun p => isLoc (at? sl p.1)
noncomputable def sSwp (is : List (Nat × Pos)) (es : List E) (sl : List Slot) (σ : List MO) : Option (Fl × List Slot × List MO) :=
  (r.es es sl σ).bind fun x => (putLocs is.reverse (x.1.map MV.wk).reverse sl).bind fun y => some (.next, y, x.2)
noncomputable def exB : E → Bool
  | .comp _ _ _ _ _ _ _ _ _ _ _ => false
  | _ => true
noncomputable def sEx (sl : List Slot) (x : MV × List MO) : Option (Fl × List Slot × List MO) := match x.1 with
  | .none => some (.next, sl, x.2)
  | _ => none
structure BxS where
  f : Rec → List Slot → List MO → Option (Fl × List Slot × List MO)
noncomputable def fS (s : S) : BxS := match s with
  | .asg t e _ => ⟨fun r sl σ => cond (asgB sl t e) ((r.e e sl σ).bind fun x => (r.a t x.1 sl x.2).bind fun y => some (.next, y)) none⟩
  | .swp is _ _ es _ _ _ => ⟨fun r sl σ => cond (swpB sl is es && allLoc sl is) (sSwp r is es sl σ) none⟩
  | .augA o a _ op e _ => ⟨fun r sl σ => sAugA CT r o a op e sl σ⟩
  | .iff t b o _ => ⟨fun r sl σ => (r.t t sl σ).bind fun x => cond x.1 (r.ss b sl x.2) (r.ss o sl x.2)⟩
  | .whl t b _ => ⟨fun r sl σ => r.wh t b sl σ⟩
  | .fr t it b _ => ⟨fun r sl σ => (srcG r it sl σ).bind fun x => r.fr t x.1 b sl x.2⟩
  | .ret e _ => ⟨fun r sl σ => (r.e e sl σ).bind fun x => some (.ret x.1, sl, x.2)⟩
  | .brk _ => ⟨fun r sl σ => some (.brk, sl, σ)⟩
  | .ex e _ => ⟨fun r sl σ => cond (exB e) ((r.e e sl σ).bind (sEx sl)) none⟩
  | .raw _ => ⟨fun r sl σ => none⟩
noncomputable def stepS (s : S) (sl : List Slot) (σ : List MO) : Option (Fl × List Slot × List MO) := (fS CT s).f r sl σ
noncomputable def ssN (ss : List S) (x : Fl × List Slot × List MO) : Option (Fl × List Slot × List MO) := match x.1 with
  | .next => r.ss ss x.2.1 x.2.2
  | _ => some x
noncomputable def fSs (ss : List S) : BxS := match ss with
  | [] => ⟨fun _ sl σ => some (.next, sl, σ)⟩
  | s :: ss => ⟨fun r sl σ => (r.s s sl σ).bind (ssN r ss)⟩
noncomputable def stepSs (ss : List S) (sl : List Slot) (σ : List MO) : Option (Fl × List Slot × List MO) := (fSs ss).f r sl σ
noncomputable def whN (t : E) (b : List S) (y : Fl × List Slot × List MO) : Option (Fl × List Slot × List MO) := match y.1 with
  | .next => r.wh t b y.2.1 y.2.2
  | .brk => some (.next, y.2)
  | .ret _ => some y
noncomputable def stepWh (t : E) (b : List S) (sl : List Slot) (σ : List MO) : Option (Fl × List Slot × List MO) :=
  (r.t t sl σ).bind fun x => cond x.1 ((r.ss b sl x.2).bind (whN r t b)) (some (.next, sl, x.2))
noncomputable def frN (t : T) (it : It) (b : List S) (y : Fl × List Slot × List MO) : Option (Fl × List Slot × List MO) := match y.1 with
  | .next => r.fr t it b y.2.1 y.2.2
  | .brk => some (.next, y.2)
  | .ret _ => some y
noncomputable def frG (t : T) (b : List S) (sl : List Slot) (σ : List MO) : Option (MV × It) → Option (Fl × List Slot × List MO)
  | none => some (.next, sl, σ)
  | some p => cond (isNm t) ((r.a t p.1 sl σ).bind fun x => (r.ss b x.1 x.2).bind (frN r t p.2 b)) none
noncomputable def stepFr (t : T) (it : It) (b : List S) (sl : List Slot) (σ : List MO) : Option (Fl × List Slot × List MO) := (it.next σ).bind (frG r t b sl σ)
/-- the slots of a comprehension as its target is set -/
noncomputable def ctSet (v : MV) (sl : List Slot) : CTg → List Slot
  | .one i _ => setAt (.loc (some v)) sl i
noncomputable def coE (elt : E) (ct : CTg) (ifs : List E) (it : It) (ka : Nat) (sl : List Slot) (y : Bool × List MO) : Option (List MO) :=
  cond y.1 ((r.e elt sl y.2).bind fun z => (apnd ka z.1 z.2 (at? z.2 ka)).bind fun s => r.co elt ct ifs it ka sl s) (r.co elt ct ifs it ka sl y.2)
noncomputable def coG (elt : E) (ct : CTg) (ifs : List E) (ka : Nat) (sl : List Slot) (σ : List MO) : Option (MV × It) → Option (List MO)
  | none => some σ
  | some p => (r.ts .And ifs (ctSet p.1 sl ct) σ).bind (coE r elt ct ifs p.2 ka (ctSet p.1 sl ct))
noncomputable def stepCo (elt : E) (ct : CTg) (ifs : List E) (it : It) (ka : Nat) (sl : List Slot) (σ : List MO) : Option (List MO) := (it.next σ).bind (coG r elt ct ifs ka sl σ)
noncomputable def con (x : Slot) (y : List Slot) : Option (List Slot) := some (x :: y)
/-- the slots of a function as it is entered -/
noncomputable def mkSl : Nat → List FS → List MV → Option (List Slot)
  | np, [], vs => (match np with | 0 => (match vs with | [] => some [] | _ => none) | _ => none)
  | np, f :: fs, vs => (match np with
    | 0 => (match f with
      | .loc => (mkSl 0 fs vs).bind (con (.loc none))
      | .glb v => (mkSl 0 fs vs).bind (con (.glb v))
      | .nst i k js => (mkSl 0 fs vs).bind (con (.nst i k js))
      | .nid w => (mkSl 0 fs vs).bind (con (.nid w))
      | .unk => (mkSl 0 fs vs).bind (con .unk))
    | n + 1 => (match vs with
      | [] => none
      | v :: vs => (match f with
        | .loc => (mkSl n fs vs).bind (con (.loc (some v)))
        | _ => none)))
noncomputable def retN (x : Fl × List Slot × List MO) : Option (MV × List MO) := match x.1 with
  | .ret v => some (v, x.2.2)
  | .next => some (.none, x.2.2)
  | .brk => none
noncomputable def callFn (fn : Fn) (as : List MV) (σ : List MO) : Option (MV × List MO) :=
  (mkSl fn.np fn.slots as).bind fun x => (r.ss fn.body x σ).bind retN
noncomputable def iniN (k : Nat) (x : MV × List MO) : Option (MV × List MO) := match x.1 with
  | .none => some (.ref k, x.2)
  | _ => none
noncomputable def callCl (k : Nat) (c : Cl) (as : List MV) (σ : List MO) : Option (MV × List MO) :=
  (c.ini).bind fun fi => (r.call (.fn fi) (.ref σ.length :: as) (σ ++ [.inst k []])).bind (iniN σ.length)
noncomputable def memoN (n : Nat) (p : (MV × List MO) × Nat) : Option (MV × List MO) := cond (Nat.ble p.2 n) (some p.1) none
noncomputable def callK (k : Nat) (as : List MV) (σ : List MO) : Option ((MV × List MO) × Nat) → Option (MV × List MO)
  | some p => memoN r.n p
  | none => (at? FT k).bind fun fn => callFn r fn as σ
noncomputable def lamC (c : Cst) (as : List MV) (σ : List MO) : Option (MV × List MO) := match as with
  | [_] => some (c.mv, σ)
  | _ => none
noncomputable def stepCall (f : MV) (as : List MV) (σ : List MO) : Option (MV × List MO) := match f with
  | .fn k => callK FT r k as σ (mm k as σ)
  | .lam k => (lamOf k).bind fun c => lamC c.1 as σ
  | .cls k => (at? CT k).bind fun c => callCl r k c as σ
  | .bi b => biCall b as σ
  | _ => none
noncomputable def step : Rec where
  n := r.n + 1
  e := stepE CT GV r
  es := stepEs r
  eo := stepEo r
  t := stepT r
  ts := stepTs r
  a := stepA CT r
  as := stepAs r
  s := stepS CT r
  ss := stepSs r
  wh := stepWh r
  fr := stepFr r
  co := stepCo r
  call := stepCall FT CT mm r
end
noncomputable def run (FT : List Fn) (CT : List Cl) (GV : List (Option MV)) (mm : Nat → List MV → List MO → Option ((MV × List MO) × Nat)) : Nat → Rec
  | n => Nat.rec (motive := fun _ => Rec) .nil (fun _ r => step FT CT GV mm r) n
end Mine

open PySem PyProof.Rows
namespace Mine
set_option autoImplicit false
set_option backward.match.sparseCases false
/-- no run takes back a token -/
theorem runs_toks {M : Model} {Γ : Ctx} {p : Pos} {t : Sem Fin} {fs : List Frame} {s s' : Shared} {e : End} (h : Runs M Γ p t fs s e s') : s.toks ≤ s'.toks := by
  induction h <;> (try dsimp only [Shared.setGen] at *) <;> first | exact Nat.le_refl _ | assumption | omega
theorem wakes_toks {M : Model} {Γ : Ctx} {p : Pos} {g : Nat} {r : Resume} {s s' : Shared} {res : GenResult} (h : Wakes M Γ p g r s res s') : s.toks ≤ s'.toks := by
  unfold Wakes at h
  split at h
  · exact h.elim
  · split at h
    · obtain ⟨e, s₁, h1, _, _, rfl⟩ := h; exact (show (s.setGen g .running).toks ≤ s₁.toks from runs_toks h1)
    · rw [h.2]; exact Nat.le_refl _
    · rw [h.2]; exact Nat.le_refl _
  · obtain ⟨e, s₁, h1, _, _, rfl⟩ := h; exact (show (s.setGen g .running).toks ≤ s₁.toks from runs_toks h1)
  · rw [h.2]; exact Nat.le_refl _
  · rw [h.2]; exact Nat.le_refl _
theorem wp_toks {α : Type} {M : Model} {Γ : Ctx} {n : Nat} {t : Sem α} : ∀ {Q : α → Pos → Shared → Prop} {E : Value → Pos → Shared → Prop} {p : Pos} {s : Shared}, n ≤ s.toks →
    Sem.wp M Γ t (fun a p' s' => n ≤ s'.toks → Q a p' s') E p s → Sem.wp M Γ t Q E p s := by
  induction t with
  | call c h g l k ih =>
    intro Q E p s hn w
    rw [Sem.wp_call] at w ⊢
    obtain ⟨r, s', h1, h2⟩ := w
    exact ⟨r, s', h1, ih r (Nat.le_trans hn (runs_toks h1)) h2⟩
  | resume g r l k ih =>
    intro Q E p s hn w
    rw [Sem.wp_resume] at w ⊢
    obtain ⟨res, s', h1, h2⟩ := w
    exact ⟨res, s', h1, ih res (Nat.le_trans hn (wakes_toks h1)) h2⟩
  | load a part k ih =>
    intro Q E p s hn w
    rw [Sem.wp_load] at w ⊢
    obtain ⟨o, h1, h2⟩ := w
    exact ⟨o, h1, ih o hn h2⟩
  | update a part f k ih =>
    intro Q E p s hn w
    rw [Sem.wp_update] at w ⊢
    exact ⟨w.1, ih () hn w.2⟩
  | choose src m k ih =>
    intro Q E p s hn w
    rw [Sem.wp_choose] at w ⊢
    exact ⟨w.1, ih _ hn w.2⟩
  | genState g k ih =>
    intro Q E p s hn w
    rw [Sem.wp_genState] at w ⊢
    obtain ⟨st, h1, h2⟩ := w
    exact ⟨st, h1, ih _ hn h2⟩
  | fresh k ih =>
    intro Q E p s hn w
    rw [Sem.wp_fresh] at w ⊢
    exact ih _ (Nat.le_succ_of_le hn) w
  | pure a => intro Q E p s hn w; rw [Sem.wp_pure] at w ⊢; exact w hn
  | _ => intro Q E p s hn w; first | (simp only [Sem.wp] at w ⊢; rename_i ih; exact ih _ hn w) | (simp only [Sem.wp] at w ⊢; exact w) | (simp only [Sem.wp] at w)
theorem toksUp {α : Type} {M : Model} {A : Around} {t : Sem α} {Q : α → Shared → Prop} {E : Value → Shared → Prop} {s : Shared} (h : wpAny M A t (fun a s' => s.toks ≤ s'.toks → Q a s') E s) : wpAny M A t Q E s :=
  fun Γ p hΓ => wp_toks (Nat.le_refl _) (h Γ p hΓ)
theorem codeUp {M : Model} {A : Around} {c : Code} {R : Result → Shared → Prop} {s : Shared} (h : codeAny M A c (fun r s' => s.toks ≤ s'.toks → R r s') s) : codeAny M A c R s :=
  fun Γ p hc hA => let ⟨r, s', h1, h2⟩ := h Γ p hc hA; ⟨r, s', h1, h2 (runs_toks h1)⟩
end Mine

open PySem PySem.W PyProof.Rows PySem.Calls
namespace Mine
theorem no {α : Type} {x : α} (h : (none : Option α) = some x) : False := nomatch h
set_option autoImplicit false
set_option backward.match.sparseCases false
set_option linter.unusedVariables false

theorem eqL_cons (a b : Nat) (as bs : List Nat) : eqL (a :: as) (b :: bs) = (Nat.beq a b && eqL as bs) := by
  have h : eqL (a :: as) (b :: bs) = @Bool.rec (fun _ => Bool) false (eqL as bs) (Nat.beq a b) := rfl
  rw [h]; cases Nat.beq a b <;> rfl
theorem memN_cons (c a : Nat) (as : List Nat) : memN c (a :: as) = (Nat.beq a c || memN c as) := by
  have h : memN c (a :: as) = @Bool.rec (fun _ => Bool) (memN c as) true (Nat.beq a c) := rfl
  rw [h]; cases Nat.beq a c <;> rfl
theorem lkN_cons {α : Type} (k : Nat) (p : Nat × α) (r : List (Nat × α)) : lkN k (p :: r) = if Nat.beq p.1 k then some p.2 else lkN k r := by
  have h : lkN k (p :: r) = @Bool.rec (fun _ => Option α) (lkN k r) (some p.2) (Nat.beq p.1 k) := rfl
  rw [h]; cases Nat.beq p.1 k <;> rfl
theorem lkS_cons {α : Type} (k : List Nat) (p : List Nat × α) (r : List (List Nat × α)) : lkS k (p :: r) = if eqL p.1 k then some p.2 else lkS k r := by
  have h : lkS k (p :: r) = @Bool.rec (fun _ => Option α) (lkS k r) (some p.2) (eqL p.1 k) := rfl
  rw [h]; cases eqL p.1 k <;> rfl
theorem putN_cons (k : Nat) (v : MV) (p : Nat × MV) (r : List (Nat × MV)) : putN k v (p :: r) = if Nat.beq p.1 k then (k, v) :: r else p :: putN k v r := by
  have h : putN k v (p :: r) = @Bool.rec (fun _ => List (Nat × MV)) (p :: putN k v r) ((k, v) :: r) (Nat.beq p.1 k) := rfl
  rw [h]; cases Nat.beq p.1 k <;> rfl
/-! ## the ledger -/
noncomputable abbrev Led := List (Addr × Obj)
/-- the addresses of the objects of the store, and what all known tokens are below -/
structure Rho where
  l : List (Addr × Addr)
  cs : List Nat
  ls : List Nat
  fz : List Addr
noncomputable def Rho.app (ρ : Rho) (τ : List (Addr × Addr)) : Rho := ⟨ρ.l ++ τ, ρ.cs, ρ.ls, ρ.fz⟩
noncomputable abbrev Rho.add (ρ : Rho) (p : Addr × Addr) : Rho := ρ.app [p]
noncomputable def Rho.up (ρ : Rho) (n : Nat) : Rho := ⟨ρ.l, n :: ρ.cs, ρ.ls, ρ.fz⟩
noncomputable def Rho.ups (ρ : Rho) (ts : List Nat) : Rho := ⟨ρ.l, ts ++ ρ.cs, ρ.ls, ρ.fz⟩
noncomputable def Rho.upl (ρ : Rho) (n : Nat) : Rho := ⟨ρ.l, ρ.cs, n :: ρ.ls, ρ.fz⟩
structure Rho.le (ρ ρ' : Rho) : Prop where
  c : ∀ t ∈ ρ.cs, t ∈ ρ'.cs
  l : ∀ t ∈ ρ.ls, t ∈ ρ'.ls
  f : ρ'.fz = ρ.fz
theorem Rho.le.refl (ρ : Rho) : ρ.le ρ := ⟨fun _ h => h, fun _ h => h, rfl⟩
theorem Rho.le.trans {ρ ρ' ρ'' : Rho} (x : ρ.le ρ') (y : ρ'.le ρ'') : ρ.le ρ'' := ⟨fun t h => y.c t (x.c t h), fun t h => y.l t (x.l t h), y.f.trans x.f⟩
noncomputable abbrev tupO (ws : List Value) (n : Nat) : Obj := { cls := .type "tuple", data := .seq ws.toArray n }
/-- the table of the codes made within one code -/
structure Tb where
  c : Addr
  P : Addr
  pos : Pos
  qual : Str
/-- the free names of a code -/
noncomputable def frees (ns : Names) : List Str := (ns.filter (·.2 == .free)).map (·.1)
/-- what stands fast -/
structure St where
  K : Frag
  FA : Nat → Addr
  CA : Nat → Addr
  TB : List Tb
  BL : List (Addr × List Value)
  prog : Program
  w : World
variable (G : St)
noncomputable def pairsL (l : List (Addr × Addr)) : List Addr := l.flatMap fun p => [p.1, p.2]
noncomputable def pairsOf (ρ : Rho) : List Addr := pairsL ρ.l
noncomputable def mts (ρ : Rho) : List Addr := (G.TB.map (·.P) ++ ρ.fz) ++ pairsOf ρ
noncomputable def upd (a : Addr) (o' : Obj) (N : Led) : Led := N.map fun p => if p.1 = a then (a, o') else p

theorem mem_pairs {ρ : Rho} {i : Nat} {p : Addr × Addr} (h : ρ.l[i]? = some p) : p.1 ∈ pairsOf ρ ∧ p.2 ∈ pairsOf ρ := by
  have := List.mem_of_getElem? h
  constructor <;> exact List.mem_flatMap.mpr ⟨p, this, by simp⟩
theorem mem_mts {ρ : Rho} {i : Nat} {p : Addr × Addr} (h : ρ.l[i]? = some p) : p.1 ∈ mts G ρ ∧ p.2 ∈ mts G ρ :=
  ⟨List.mem_append_right _ (mem_pairs h).1, List.mem_append_right _ (mem_pairs h).2⟩
theorem mts_append (ρ : Rho) (τ : List (Addr × Addr)) : mts G (ρ.app τ) = mts G ρ ++ pairsL τ := by simp [mts, pairsOf, pairsL, Rho.app]
theorem mts_up (ρ : Rho) (n : Nat) : mts G (ρ.up n) = mts G ρ := rfl
theorem tab_mts {ρ : Rho} {t : Tb} (h : t ∈ G.TB) : t.P ∈ mts G ρ := List.mem_append_left _ (List.mem_append_left _ (List.mem_map_of_mem h))
theorem fz_mts {ρ : Rho} {a : Addr} (h : a ∈ ρ.fz) : a ∈ mts G ρ := List.mem_append_left _ (List.mem_append_right _ h)
theorem upd_mem {a : Addr} {o' : Obj} {N : Led} {q : Addr × Obj} (h : q ∈ N) (hn : q.1 ≠ a) : q ∈ upd a o' N :=
  List.mem_map.mpr ⟨q, h, by simp [hn]⟩
theorem upd_self {a : Addr} {o o' : Obj} {N : Led} (h : (a, o) ∈ N) : (a, o') ∈ upd a o' N :=
  List.mem_map.mpr ⟨(a, o), h, by simp⟩
theorem upd_map (a : Addr) (o' : Obj) (N : Led) : (upd a o' N).map (·.1) = N.map (·.1) := by
  unfold upd
  rw [List.map_map]
  apply List.map_congr_left
  intro p _
  by_cases h : p.1 = a <;> simp [h]
theorem upd_ne {a : Addr} {o' : Obj} {N : Led} (h : ∀ p ∈ N, p.1 ≠ a) : upd a o' N = N := by
  unfold upd
  conv => rhs; rw [← List.map_id N]
  apply List.map_congr_left
  intro p hp
  simp [h p hp]
theorem upd_Upd {a : Addr} {o o' : Obj} : ∀ {N : Led}, (N.map (·.1)).Nodup → (a, o) ∈ N → Upd a o o' N (upd a o' N)
  | [], _, h => nomatch h
  | p :: N, nd, h => by
    rw [List.map_cons, List.nodup_cons] at nd
    rcases List.mem_cons.mp h with e | h
    · subst e
      have hn : ∀ p ∈ N, p.1 ≠ a := fun p hp e => nd.1 (List.mem_map.mpr ⟨p, hp, e⟩)
      have : upd a o' ((a, o) :: N) = (a, o') :: N := by
        show (if a = a then (a, o') else (a, o)) :: upd a o' N = _
        rw [if_pos rfl, upd_ne hn]
      rw [this]
      exact .head hn
    · have hn : p.1 ≠ a := fun e => nd.1 (List.mem_map.mpr ⟨(a, o), h, e.symm⟩)
      have : upd a o' (p :: N) = p :: upd a o' N := by
        show (if p.1 = a then (a, o') else p) :: upd a o' N = _
        rw [if_neg hn]
      rw [this]
      exact .tail hn (upd_Upd nd.2 h)
theorem upd_UpdF {a : Addr} {o : Obj} : ∀ {N : Led}, (N.map (·.1)).Nodup → (a, o) ∈ N → UpdF a o N (fun o' => upd a o' N)
  | [], _, h => nomatch h
  | p :: N, nd, h => by
    rw [List.map_cons, List.nodup_cons] at nd
    rcases List.mem_cons.mp h with e | h
    · subst e
      have hn : ∀ p ∈ N, p.1 ≠ a := fun p hp e => nd.1 (List.mem_map.mpr ⟨p, hp, e⟩)
      have : (fun o' => upd a o' ((a, o) :: N)) = fun o' => (a, o') :: N := by
        funext o'
        show (if a = a then (a, o') else (a, o)) :: upd a o' N = _
        rw [if_pos rfl, upd_ne hn]
      rw [this]
      exact .head hn
    · have hn : p.1 ≠ a := fun e => nd.1 (List.mem_map.mpr ⟨(a, o), h, e.symm⟩)
      have : (fun o' => upd a o' (p :: N)) = fun o' => p :: upd a o' N := by
        funext o'
        show (if p.1 = a then (a, o') else p) :: upd a o' N = _
        rw [if_neg hn]
      rw [this]
      exact .tail hn (upd_UpdF nd.2 h)

/-! ## what a value stands for -/
noncomputable def biV : Bi → Value
  | .len => .builtin "len"
  | .isinstance => .builtin "isinstance"
  | .range => .type "range"
  | .list => .type "list"
  | .abs => .builtin "abs"
  | .int => .type "int"
  | .tuple => .type "tuple"
noncomputable def rngO (a n : Nat) (t u v : Tok) : Obj := { cls := .type "range", data := .fields #[.int (a : Int) t, .int ((a : Int) + n) u, .int 1 v] }

section
mutual
inductive RV (N : Led) (ρ : Rho) : Value → MV → Prop
  | none : RV N ρ .none .none
  | bool (b : Bool) : RV N ρ (.bool b) (.bool b)
  | int (i : Int) (t : Tok) : RV N ρ (.int i t) (.int i)
  | str (l : List Nat) (t : Tok) : RV N ρ (.str ⟨l.toArray⟩ t) (.str l)
  | tup {a : Addr} {ws : List Value} {n : Nat} {vs : List MV} : (a, tupO ws n) ∈ N → a ∉ mts G ρ → RVs N ρ ws vs → RV N ρ (.ref a) (.tup vs)
  | ktup {a : Addr} {ws : List Value} {n : Nat} {vs : List MV} : G.K.lookup a = some (tupO ws n) → RVs N ρ ws vs → RV N ρ (.ref a) (.tup vs)
  | ref {i : Nat} {p : Addr × Addr} : ρ.l[i]? = some p → RV N ρ (.ref p.1) (.ref i)
  | fn (k : Nat) : RV N ρ (.ref (G.FA k)) (.fn k)
  | cls (k : Nat) : RV N ρ (.ref (G.CA k)) (.cls k)
  | bi (b : Bi) : RV N ρ (biV b) (.bi b)
  | rng {r : Addr} {a n : Nat} {t u v : Tok} : (r, rngO a n t u v) ∈ N → r ∉ mts G ρ → RV N ρ (.ref r) (.rng a n)
  | lam {g : Addr} {k : Nat} {c : Cst × Nat × Pos} {pm : Value} {c' : Addr} {ctv : Value} {oc : Obj} {vs : Array Value} {t : Tok} : lamOf k = some c → (g, kla_obj (cdAt k).name (cdAt k).qual (cdAt k).params (lamX c) (cdAt k).scope [] pm c' ctv) ∈ N → g ∉ mts G ρ →
      (c', oc) ∈ N → c' ∉ mts G ρ → oc.data = .fields vs → vs[1]? = some (.str (cdAt k).qual t) → RV N ρ (.ref g) (.lam k)
  | bl {a : Addr} {ws : List Value} {xs : List MV} : (a, ws) ∈ G.BL → RVs N ρ ws xs → RV N ρ (.ref a) (.bl xs)
  | ab {i : Int} {t : Tok} {M r : Nat} : i.natAbs % M = r → RV N ρ (.int i t) (.ab M r)
  | md {x : Nat} {t : Tok} {M r : Nat} : x % M = r → RV N ρ (.int (x : Int) t) (.md M r)
  | chr {c : Nat} {t : Tok} : t ∈ ρ.cs → RV N ρ (.str ⟨[c].toArray⟩ t) (.chr c)
  | emp {t : Tok} : t ∈ ρ.ls → RV N ρ (.str ⟨[].toArray⟩ t) .emp
  | any (v : Value) : RV N ρ v .any
inductive RVs (N : Led) (ρ : Rho) : List Value → List MV → Prop
  | nil : RVs N ρ [] []
  | cons {w : Value} {ws : List Value} {v : MV} {vs : List MV} : RV N ρ w v → RVs N ρ ws vs → RVs N ρ (w :: ws) (v :: vs)
end

structure Ext (N : Led) (ρ : Rho) (N' : Led) (ρ' : Rho) : Prop where
  sub : ∀ q ∈ N, q.1 ∉ mts G ρ → q ∈ N'
  pre : ∃ t, ρ'.l = ρ.l ++ t
  bb : ρ.le ρ'
  fr : ∀ a ∈ mts G ρ', a ∈ mts G ρ ∨ ∀ o, (a, o) ∉ N
  old : ∀ a o, (a, o) ∈ N → ∃ o', (a, o') ∈ N'
variable {G}
theorem Ext.refl (G : St) (N : Led) (ρ : Rho) : Ext G N ρ N ρ := ⟨fun _ h _ => h, ⟨[], by simp⟩, Rho.le.refl _, fun _ h => .inl h, fun _ o h => ⟨o, h⟩⟩
theorem Ext.off {N N' : Led} {ρ ρ' : Rho} (x : Ext G N ρ N' ρ') {a : Addr} {o : Obj} (h : (a, o) ∈ N) (hn : a ∉ mts G ρ) : a ∉ mts G ρ' := fun h' =>
  (x.fr a h').elim hn fun f => f o h
theorem Ext.trans {N N' N'' : Led} {ρ ρ' ρ'' : Rho} (x : Ext G N ρ N' ρ') (y : Ext G N' ρ' N'' ρ'') : Ext G N ρ N'' ρ'' where
  sub q h hn := y.sub q (x.sub q h hn) (x.off (a := q.1) (o := q.2) h hn)
  pre := by
    obtain ⟨t, e⟩ := x.pre
    obtain ⟨u, e'⟩ := y.pre
    exact ⟨t ++ u, by rw [e', e, List.append_assoc]⟩
  bb := x.bb.trans y.bb
  fr a h := by
    rcases y.fr a h with h | h
    · exact x.fr a h
    · refine .inr fun o ho => ?_
      obtain ⟨o', h'⟩ := x.old a o ho
      exact h o' h'
  old a o h := by
    obtain ⟨o', h'⟩ := x.old a o h
    exact y.old a o' h'
theorem Ext.get {N N' : Led} {ρ ρ' : Rho} (x : Ext G N ρ N' ρ') {i : Nat} {p : Addr × Addr} (h : ρ.l[i]? = some p) : ρ'.l[i]? = some p := by
  obtain ⟨t, e⟩ := x.pre
  have := List.getElem?_eq_some_iff.mp h
  rw [e, List.getElem?_append_left this.1]; exact h

/-- the objects that a value may stand on -/
noncomputable def Good (o : Obj) : Prop := (∃ ws n, o.data = .seq ws n) ∨ (∃ fd, o.data = .func fd) ∨ (o.cls = .type "range" ∧ ∃ vs, o.data = .fields vs) ∨ ∃ vs x t, o.data = .fields vs ∧ vs[1]? = some (.str x t)
/-- what the values are borne on by -/
structure Tr (G : St) (N : Led) (ρ : Rho) (N' : Led) (ρ' : Rho) : Prop where
  sub : ∀ q ∈ N, q.1 ∉ mts G ρ → Good q.2 → q ∈ N' ∧ q.1 ∉ mts G ρ'
  pre : ∃ t, ρ'.l = ρ.l ++ t
  bb : ρ.le ρ'
theorem Tr.get {N N' : Led} {ρ ρ' : Rho} (x : Tr G N ρ N' ρ') {i : Nat} {p : Addr × Addr} (h : ρ.l[i]? = some p) : ρ'.l[i]? = some p := by
  obtain ⟨t, e⟩ := x.pre
  have := List.getElem?_eq_some_iff.mp h
  rw [e, List.getElem?_append_left this.1]; exact h
theorem Ext.tr {N N' : Led} {ρ ρ' : Rho} (x : Ext G N ρ N' ρ') : Tr G N ρ N' ρ' := ⟨fun q h hn _ => ⟨x.sub q h hn, x.off (a := q.1) (o := q.2) h hn⟩, x.pre, x.bb⟩
/-- the ledger grown, but for a few rows -/
structure ExtX (G : St) (ex : List Addr) (N : Led) (ρ : Rho) (N' : Led) (ρ' : Rho) : Prop where
  sub : ∀ q ∈ N, q.1 ∉ mts G ρ → q.1 ∉ ex → q ∈ N'
  pre : ∃ t, ρ'.l = ρ.l ++ t
  bb : ρ.le ρ'
  fr : ∀ a ∈ mts G ρ', a ∈ mts G ρ ∨ ∀ o, (a, o) ∉ N
  old : ∀ a o, (a, o) ∈ N → a ∉ ex → ∃ o', (a, o') ∈ N'
theorem Ext.toX {N N' : Led} {ρ ρ' : Rho} (x : Ext G N ρ N' ρ') (ex : List Addr) : ExtX G ex N ρ N' ρ' := ⟨fun q h hn _ => x.sub q h hn, x.pre, x.bb, x.fr, fun a o h _ => x.old a o h⟩
theorem ExtX.off {ex : List Addr} {N N' : Led} {ρ ρ' : Rho} (x : ExtX G ex N ρ N' ρ') {a : Addr} {o : Obj} (h : (a, o) ∈ N) (hn : a ∉ mts G ρ) : a ∉ mts G ρ' := fun h' =>
  (x.fr a h').elim hn fun f => f o h
theorem ExtX.tr {ex : List Addr} {N N' : Led} {ρ ρ' : Rho} (x : ExtX G ex N ρ N' ρ') (bad : ∀ a ∈ ex, ∀ o, (a, o) ∈ N → ¬ Good o) : Tr G N ρ N' ρ' :=
  ⟨fun q h hn g => ⟨x.sub q h hn fun he => bad q.1 he q.2 h g, x.off (a := q.1) (o := q.2) h hn⟩, x.pre, x.bb⟩
theorem ExtX.trans {ex : List Addr} {N N' N'' : Led} {ρ ρ' ρ'' : Rho} (x : ExtX G ex N ρ N' ρ') (hx : ∀ a o, (a, o) ∈ N → ∃ o', (a, o') ∈ N') (y : ExtX G ex N' ρ' N'' ρ'') : ExtX G ex N ρ N'' ρ'' where
  sub q h hn he := y.sub q (x.sub q h hn he) (x.off (a := q.1) (o := q.2) h hn) he
  pre := by
    obtain ⟨t, e⟩ := x.pre
    obtain ⟨u, e'⟩ := y.pre
    exact ⟨t ++ u, by rw [e', e, List.append_assoc]⟩
  bb := x.bb.trans y.bb
  fr a h := by
    rcases y.fr a h with h | h
    · exact x.fr a h
    · refine .inr fun o ho => ?_
      obtain ⟨o', h'⟩ := hx a o ho
      exact h o' h'
  old a o h he := by
    obtain ⟨o', h'⟩ := hx a o h
    exact y.old a o' h' he
theorem RV.monoT {N N' : Led} {ρ ρ' : Rho} (x : Tr G N ρ N' ρ') {v : Value} {m : MV} (h : RV G N ρ v m) : RV G N' ρ' v m :=
  RV.rec (motive_1 := fun v m _ => RV G N' ρ' v m) (motive_2 := fun vs ms _ => RVs G N' ρ' vs ms) .none .bool .int .str
    (fun h hn _ hs => .tup (x.sub _ h hn (.inl ⟨_, _, rfl⟩)).1 (x.sub _ h hn (.inl ⟨_, _, rfl⟩)).2 hs) (fun h _ hs => .ktup h hs) (fun h => .ref (x.get h)) .fn .cls .bi
    (fun h hn => .rng (x.sub _ h hn (.inr (.inr (.inl ⟨rfl, _, rfl⟩)))).1 (x.sub _ h hn (.inr (.inr (.inl ⟨rfl, _, rfl⟩)))).2)
    (fun h0 h1 h2 h3 h4 h5 h6 => .lam h0 (x.sub _ h1 h2 (.inr (.inl ⟨_, rfl⟩))).1 (x.sub _ h1 h2 (.inr (.inl ⟨_, rfl⟩))).2 (x.sub _ h3 h4 (.inr (.inr (.inr ⟨_, _, _, h5, h6⟩)))).1 (x.sub _ h3 h4 (.inr (.inr (.inr ⟨_, _, _, h5, h6⟩)))).2 h5 h6)
    (fun h _ hs => .bl h hs) .ab .md (fun h => .chr (x.bb.c _ h)) (fun h => .emp (x.bb.l _ h)) .any .nil (fun _ _ h hs => .cons h hs) h
theorem RVs.nilv {N : Led} {ρ : Rho} {vs : List Value} (h : RVs G N ρ vs []) : vs = [] := by (first | exact (no h).elim | cases h); rfl
theorem RVs.uncons {N : Led} {ρ : Rho} {vs : List Value} {m : MV} {ms : List MV} (h : RVs G N ρ vs (m :: ms)) : ∃ u us, vs = u :: us ∧ RV G N ρ u m ∧ RVs G N ρ us ms := by cases h with | cons h hs => exact ⟨_, _, rfl, h, hs⟩
theorem RVs.monoT {N N' : Led} {ρ ρ' : Rho} (x : Tr G N ρ N' ρ') {vs : List Value} {ms : List MV} (h : RVs G N ρ vs ms) : RVs G N' ρ' vs ms := by
  induction ms generalizing vs with
  | nil => rw [h.nilv]; exact .nil
  | cons m ms ih => obtain ⟨_, _, rfl, h, hs⟩ := h.uncons; exact .cons (h.monoT x) (ih hs)
theorem RV.mono {N N' : Led} {ρ ρ' : Rho} (x : Ext G N ρ N' ρ') {v : Value} {m : MV} (h : RV G N ρ v m) : RV G N' ρ' v m := RV.monoT x.tr h
theorem RVs.mono {N N' : Led} {ρ ρ' : Rho} (x : Ext G N ρ N' ρ') {vs : List Value} {ms : List MV} (h : RVs G N ρ vs ms) : RVs G N' ρ' vs ms := RVs.monoT x.tr h
theorem RVs.length {N : Led} {ρ : Rho} {vs : List Value} {ms : List MV} (h : RVs G N ρ vs ms) : vs.length = ms.length := by
  induction ms generalizing vs with
  | nil => rw [h.nilv]; rfl
  | cons m ms ih => obtain ⟨_, _, rfl, h, hs⟩ := h.uncons; rw [List.length_cons, List.length_cons, ih hs]
theorem RVs.at {N : Led} {ρ : Rho} {vs : List Value} {ms : List MV} (h : RVs G N ρ vs ms) {i : Nat} {m : MV} (e : ms[i]? = some m) : ∃ v, vs[i]? = some v ∧ RV G N ρ v m := by
  induction ms generalizing vs i with
  | nil => simp at e
  | cons x ms ih =>
    obtain ⟨u, us, rfl, h, hs⟩ := h.uncons
    cases i with
    | zero => simp at e; exact ⟨u, by simp, e ▸ h⟩
    | succ i => obtain ⟨v, h1, h2⟩ := ih hs (i := i) (by simpa using e); exact ⟨v, by simpa using h1, h2⟩
theorem RVs.append {N : Led} {ρ : Rho} {vs vs' : List Value} {ms ms' : List MV} (h : RVs G N ρ vs ms) (y : RVs G N ρ vs' ms') : RVs G N ρ (vs ++ vs') (ms ++ ms') := by
  induction ms generalizing vs with
  | nil => rw [h.nilv]; exact y
  | cons x ms ih => obtain ⟨u, us, rfl, h, hs⟩ := h.uncons; exact .cons h (ih hs)
theorem at?_eq {α : Type} : ∀ (l : List α) (i : Nat), at? l i = l[i]?
  | [], i => by rw [List.getElem?_nil]; rfl
  | a :: l, 0 => rfl
  | a :: l, i + 1 => by rw [List.getElem?_cons_succ]; exact at?_eq l i
theorem setAt_eq {α : Type} (v : α) : ∀ (l : List α) (i : Nat), setAt v l i = l.set i v
  | [], i => rfl
  | a :: l, 0 => rfl
  | a :: l, i + 1 => by rw [List.set_cons_succ, ← setAt_eq v l i]; rfl
end
/-- what is known of a value, read off what it stands for -/
noncomputable def RVi (G : St) (N : Led) (ρ : Rho) (v : Value) : MV → Prop
  | .none => v = .none
  | .bool b => v = .bool b
  | .int i => ∃ t, v = .int i t
  | .str l => ∃ t, v = .str ⟨l.toArray⟩ t
  | .ref i => ∃ p, ρ.l[i]? = some p ∧ v = .ref p.1
  | .fn k => v = .ref (G.FA k)
  | .cls k => v = .ref (G.CA k)
  | .bi b => v = biV b
  | .ab M r => ∃ i t, i.natAbs % M = r ∧ v = .int i t
  | .chr c => ∃ (t : Tok), v = .str ⟨[c].toArray⟩ t ∧ t ∈ ρ.cs
  | .emp => ∃ (t : Tok), v = .str ⟨[].toArray⟩ t ∧ t ∈ ρ.ls
  | .md M r => ∃ (x : Nat) (t : Tok), x % M = r ∧ v = .int (x : Int) t
  | .bl xs => ∃ a ws, (a, ws) ∈ G.BL ∧ RVs G N ρ ws xs ∧ v = .ref a
  | .rng a n => ∃ r t u w, (r, rngO a n t u w) ∈ N ∧ r ∉ mts G ρ ∧ v = .ref r
  | _ => True
theorem RV.inv {G : St} {N : Led} {ρ : Rho} {v : Value} {m : MV} (h : RV G N ρ v m) : RVi G N ρ v m := by
  cases h with
  | none => rfl
  | bool b => rfl
  | int i t => exact ⟨t, rfl⟩
  | str l t => exact ⟨t, rfl⟩
  | tup h1 h2 h3 => trivial
  | ktup h1 h2 => trivial
  | ref h => exact ⟨_, h, rfl⟩
  | fn k => rfl
  | cls k => rfl
  | bi b => rfl
  | rng h1 h2 => exact ⟨_, _, _, _, h1, h2, rfl⟩
  | lam h1 => trivial
  | bl h1 h2 => exact ⟨_, _, h1, h2, rfl⟩
  | ab h => exact ⟨_, _, h, rfl⟩
  | md h => exact ⟨_, _, h, rfl⟩
  | chr h1 => exact ⟨_, rfl, h1⟩
  | emp h1 => exact ⟨_, rfl, h1⟩
  | any v => trivial
theorem RV.wk {G : St} {N : Led} {ρ : Rho} {v : Value} {m : MV} (h : RV G N ρ v m) : RV G N ρ v m.wk := by
  cases m <;> first | exact h | (obtain ⟨t, rfl, _⟩ := h.inv; exact .str _ _)
theorem RVs.wk {G : St} {N : Led} {ρ : Rho} {vs : List Value} {ms : List MV} (h : RVs G N ρ vs ms) : RVs G N ρ vs (ms.map MV.wk) := by
  induction ms generalizing vs with
  | nil => exact h
  | cons x ms ih => obtain ⟨u, us, rfl, h, hs⟩ := h.uncons; exact .cons h.wk (ih hs)
theorem a1_ok {G : St} {N : Led} {ρ : Rho} {f : MV → Option (MV × List MO)} {as : List MV} {vs : List Value} {r : MV × List MO} (e : a1 f as = some r) (hs : RVs G N ρ vs as) : ∃ v x, vs = [v] ∧ RV G N ρ v x ∧ f x = some r := by
  unfold a1 at e
  split at e
  · obtain ⟨_, _, rfl, h, hs⟩ := hs.uncons; rw [hs.nilv]; exact ⟨_, _, rfl, h, e⟩
  · (first | exact (no e).elim | cases e)
theorem a2_ok {G : St} {N : Led} {ρ : Rho} {f : MV → MV → Option (MV × List MO)} {as : List MV} {vs : List Value} {r : MV × List MO} (e : a2 f as = some r) (hs : RVs G N ρ vs as) : ∃ v x w y, vs = [v, w] ∧ RV G N ρ v x ∧ RV G N ρ w y ∧ f x y = some r := by
  unfold a2 at e
  split at e
  · obtain ⟨_, _, rfl, h, hs⟩ := hs.uncons; obtain ⟨_, _, rfl, h2, hs⟩ := hs.uncons; rw [hs.nilv]; exact ⟨_, _, _, _, rfl, h, h2, e⟩
  · (first | exact (no e).elim | cases e)
end Mine

open PySem PySem.W PyProof.Rows PySem.Calls
namespace Mine
set_option autoImplicit false
set_option backward.match.sparseCases false
set_option linter.unusedVariables false

section
variable (G : St)

inductive AR (N : Led) (ρ : Rho) : List DictEntry → List (Nat × MV) → Prop
  | nil : AR N ρ [] []
  | cons {h : Int} {a : Nat} {t : Tok} {v : Value} {mv : MV} {es : List DictEntry} {ats : List (Nat × MV)} : a < 20 → RV G N ρ v mv → AR N ρ es ats → AR N ρ (⟨h, .str (an a) t, v⟩ :: es) ((a, mv) :: ats)
inductive DR (N : Led) (ρ : Rho) : List (Str × Value) → List (List Nat × MV) → Prop
  | nil : DR N ρ [] []
  | cons {k : List Nat} {v : Value} {mv : MV} {es : List (Str × Value)} {kvs : List (List Nat × MV)} : RV G N ρ v mv → DR N ρ es kvs → DR N ρ ((⟨k.toArray⟩, v) :: es) ((k, mv) :: kvs)
inductive CR (N : Led) (ρ : Rho) : Option Value → Option MV → Prop
  | none : CR N ρ none none
  | some {v : Value} {mv : MV} : RV G N ρ v mv → CR N ρ (some v) (some mv)

noncomputable def NsOb (o : Obj) (m : Str → Option Value) : Prop := ∃ es ep, o.data = .dict es ep ∧ StrKeys es ∧ ∀ name, nsFind es name = m name
theorem NsOb.ns {h : Heap} {C : Addr} {o : Obj} {m : Str → Option Value} (x : NsOb o m) (e : h.get? C = some o) : h.Ns C m := let ⟨es, ep, hd, r⟩ := x; ⟨o, es, ep, e, hd, r⟩
theorem ns_ob {h : Heap} {C : Addr} {m : Str → Option Value} (x : h.Ns C m) : ∃ o, h.get? C = some o ∧ NsOb o m := let ⟨o, es, ep, e, hd, r⟩ := x; ⟨o, e, es, ep, hd, r⟩
noncomputable def strIt (l : List Nat) : String := if l.toArray.all (· < 128) then "str_ascii_iterator" else "str_iterator"
/-- what an iterator stands for -/
inductive IR (ρ : Rho) : Obj → It → Prop
  | rng (a n : Nat) : IR ρ { cls := .type "range_iterator", dict := none, data := .fields #[rawInt (a : Int), rawInt (n : Int), rawInt 1], slots := #[] } (.rng a n)
  | str {o : Obj} {l : List Nat} {k : Nat} {t : Tok} : o.cls = .type (strIt l) → o.data = .fields #[.str ⟨l.toArray⟩ t, .int k 0] → IR ρ o (.str l k (l.drop k))
  | lst {o : Obj} {i k : Nat} {p : Addr × Addr} : ρ.l[i]? = some p → o.cls = .type "list_iterator" → o.data = .fields #[.ref p.1, .int k 0] → IR ρ o (.lst i k)
/-- what an object of the store stands for -/
inductive OR (N : Led) (ρ : Rho) : Addr × Addr → MO → Prop
  | list {a : Addr} {ws : List Value} {n : Nat} {xs : List MV} : (a, listOf ws.toArray n) ∈ N → RVs G N ρ ws xs → OR N ρ (a, a) (.list xs)
  | inst {a d : Addr} {k : Nat} {es : List DictEntry} {n : Nat} {ats : List (Nat × MV)} : (a, instObj (G.CA k) d) ∈ N → (d, dictOf es n) ∈ N → AR G N ρ es ats → OR N ρ (a, d) (.inst k ats)
  | dict {a : Addr} {o : Obj} {es : List (Str × Value)} {kvs : List (List Nat × MV)} : (a, o) ∈ N → o.IsDictOf (strKind G.prog G.w) es → (a == sysModules) = false → DR G N ρ es kvs → OR N ρ (a, a) (.dict kvs)
  | cell {a : Addr} {o : Obj} {v : Option Value} {mv : Option MV} : (a, o) ∈ N → o.data = .cell v → CR G N ρ v mv → OR N ρ (a, a) (.cell mv)

/-- a table of codes: empty, or with the one code that is made there -/
noncomputable def TabRow (N : Led) (ρ : Rho) (t : Tb) : Prop := ∃ ps, (t.P, tabObj ps) ∈ N ∧ (ps = #[] ∨ ∃ c' oc vs u, ps = #[rawInt t.pos.line, rawInt t.pos.col, .ref c'] ∧ (c', oc) ∈ N ∧ c' ∉ mts G ρ ∧ oc.data = .fields vs ∧ vs[1]? = some (.str t.qual u))

/-- two pairs of addresses with nothing in common -/
noncomputable def Off2 (p q : Addr × Addr) : Prop := p.1 ≠ q.1 ∧ p.1 ≠ q.2 ∧ p.2 ≠ q.1 ∧ p.2 ≠ q.2

/-- the tokens that are known -/
structure TkOk (ρ : Rho) (tk : Nat) : Prop where
  pos : 0 < tk
  c : ∀ t ∈ ρ.cs, 0 < t ∧ t < tk
  l : ∀ t ∈ ρ.ls, 0 < t ∧ t < tk
  d : ∀ t ∈ ρ.cs, t ∉ ρ.ls
theorem TkOk.mono {ρ : Rho} {tk tk' : Nat} (h : TkOk ρ tk) (le : tk ≤ tk') : TkOk ρ tk' := ⟨Nat.lt_of_lt_of_le h.pos le, fun t ht => ⟨(h.c t ht).1, Nat.lt_of_lt_of_le (h.c t ht).2 le⟩, fun t ht => ⟨(h.l t ht).1, Nat.lt_of_lt_of_le (h.l t ht).2 le⟩, h.d⟩

structure Inv (h₀ : Heap) (L : Addr) (m : Str → Option Value) (N : Led) (ρ : Rho) (σ : List MO) (h : Heap) (tk : Nat) : Prop where
  F : Fr h₀ L h m
  W : News h₀ L h N
  nd : (N.map (·.1)).Nodup
  len : ρ.l.length = σ.length
  ap : ρ.l.Pairwise Off2
  so : ∀ (i : Nat) (mo : MO), σ[i]? = some mo → ∃ p, ρ.l[i]? = some p ∧ OR G N ρ p mo
  tb : ∀ t ∈ G.TB, TabRow G N ρ t
  bk : TkOk ρ tk
  fz : ∀ a ∈ ρ.fz, (∃ x y, (a, tupO [x, y] 0) ∈ N) ∧ a ∉ pairsOf ρ
end

section
variable {G : St} {h₀ h : Heap} {L : Addr} {m : Str → Option Value} {N : Led} {ρ : Rho} {σ : List MO} {tk tk' : Nat}

theorem AR.monoT {N' : Led} {ρ' : Rho} (x : Tr G N ρ N' ρ') {es : List DictEntry} {ats : List (Nat × MV)} (h : AR G N ρ es ats) : AR G N' ρ' es ats :=
  AR.rec (motive := fun es ats _ => AR G N' ρ' es ats) .nil (fun h1 h2 _ h3 => .cons h1 (h2.monoT x) h3) h
theorem DR.monoT {N' : Led} {ρ' : Rho} (x : Tr G N ρ N' ρ') {es : List (Str × Value)} {ats : List (List Nat × MV)} (h : DR G N ρ es ats) : DR G N' ρ' es ats :=
  DR.rec (motive := fun es ats _ => DR G N' ρ' es ats) .nil (fun h2 _ h3 => .cons (h2.monoT x) h3) h
theorem CR.monoT {N' : Led} {ρ' : Rho} (x : Tr G N ρ N' ρ') {v : Option Value} {mv : Option MV} (h : CR G N ρ v mv) : CR G N' ρ' v mv :=
  CR.rec (motive := fun v mv _ => CR G N' ρ' v mv) .none (fun h => .some (h.monoT x)) h
theorem IR.monoT {N' : Led} {ρ' : Rho} (x : Tr G N ρ N' ρ') {o : Obj} {it : It} (h : IR ρ o it) : IR ρ' o it :=
  IR.rec (motive := fun o it _ => IR ρ' o it) .rng .str (fun h1 h2 h3 => .lst (x.get h1) h2 h3) h
theorem AR.mono {N' : Led} {ρ' : Rho} (x : Ext G N ρ N' ρ') {es : List DictEntry} {ats : List (Nat × MV)} (h : AR G N ρ es ats) : AR G N' ρ' es ats := h.monoT x.tr
theorem DR.mono {N' : Led} {ρ' : Rho} (x : Ext G N ρ N' ρ') {es : List (Str × Value)} {ats : List (List Nat × MV)} (h : DR G N ρ es ats) : DR G N' ρ' es ats := h.monoT x.tr
theorem CR.mono {N' : Led} {ρ' : Rho} (x : Ext G N ρ N' ρ') {v : Option Value} {mv : Option MV} (h : CR G N ρ v mv) : CR G N' ρ' v mv := h.monoT x.tr
theorem IR.mono {N' : Led} {ρ' : Rho} (x : Ext G N ρ N' ρ') {o : Obj} {it : It} (h : IR ρ o it) : IR ρ' o it := h.monoT x.tr
/-- an object of the store is borne on where its own rows of the ledger stand -/
theorem OR.keepT {N' : Led} {ρ' : Rho} (x : Tr G N ρ N' ρ') {p : Addr × Addr} {mo : MO} (h : OR G N ρ p mo)
    (k : ∀ q ∈ N, q.1 = p.1 ∨ q.1 = p.2 → q ∈ N') : OR G N' ρ' p mo := by
  cases h with
  | list h1 h2 => exact .list (k _ h1 (.inl rfl)) (h2.monoT x)
  | inst h1 h2 h3 => exact .inst (k _ h1 (.inl rfl)) (k _ h2 (.inr rfl)) (h3.monoT x)
  | dict h1 h2 h0 h3 => exact .dict (k _ h1 (.inl rfl)) h2 h0 (h3.monoT x)
  | cell h1 h2 h3 => exact .cell (k _ h1 (.inl rfl)) h2 (h3.monoT x)
theorem OR.keep {N' : Led} {ρ' : Rho} (x : Ext G N ρ N' ρ') {p : Addr × Addr} {mo : MO} (h : OR G N ρ p mo)
    (k : ∀ q ∈ N, q.1 = p.1 ∨ q.1 = p.2 → q ∈ N') : OR G N' ρ' p mo := h.keepT x.tr k
theorem OR.mem {p : Addr × Addr} {mo : MO} (h : OR G N ρ p mo) : (∃ o, (p.1, o) ∈ N) ∧ ∃ o, (p.2, o) ∈ N := by
  cases h with
  | list h1 h2 => exact ⟨⟨_, h1⟩, ⟨_, h1⟩⟩
  | inst h1 h2 h3 => exact ⟨⟨_, h1⟩, ⟨_, h2⟩⟩
  | dict h1 => exact ⟨⟨_, h1⟩, ⟨_, h1⟩⟩
  | cell h1 h2 h3 => exact ⟨⟨_, h1⟩, ⟨_, h1⟩⟩
theorem nodup_row : ∀ {N : Led}, (N.map (·.1)).Nodup → ∀ {a : Addr} {o o' : Obj}, (a, o) ∈ N → (a, o') ∈ N → o = o'
  | [], _, _, _, _, h1, _ => nomatch h1
  | p :: N, nd, a, o, o', h1, h2 => by
    rw [List.map_cons, List.nodup_cons] at nd
    rcases List.mem_cons.mp h1 with e1 | h1 <;> rcases List.mem_cons.mp h2 with e2 | h2
    · have := e1.trans e2.symm; exact (Prod.mk.inj this).2
    · exact absurd (List.mem_map.mpr ⟨_, h2, by rw [← e1]⟩) nd.1
    · exact absurd (List.mem_map.mpr ⟨_, h1, by rw [← e2]⟩) nd.1
    · exact nodup_row nd.2 h1 h2
theorem OR.noTab {p : Addr × Addr} {mo : MO} (nd : (N.map (·.1)).Nodup) (h : OR G N ρ p mo) {a : Addr} {ps : Array Value} (ha : a = p.1 ∨ a = p.2) (hm : (a, tabObj ps) ∈ N) : False := by
  have one : ∀ {b : Addr} {o : Obj}, (b, o) ∈ N → a = b ∨ a = b → o = tabObj ps := fun h1 ha => by
    rcases ha with rfl | rfl <;> exact nodup_row nd h1 hm
  cases h with
  | list h1 h2 => exact absurd (congrArg Obj.cls (one h1 ha)) (by simp)
  | inst h1 h2 h3 =>
    rcases ha with rfl | rfl
    · exact absurd (congrArg Obj.cls (nodup_row nd h1 hm)) (by simp)
    · exact absurd (congrArg Obj.data (nodup_row nd h2 hm)) (by simp)
  | dict h1 h2 h0 h3 =>
    obtain ⟨es, ep, h4, h5, _⟩ := h2
    rw [one h1 ha] at h5; simp at h5
  | cell h1 h2 h3 => rw [one h1 ha] at h2; simp at h2
theorem TabRow.keepT {N' : Led} {ρ' : Rho} (x : Tr G N ρ N' ρ') {t : Tb} (h : TabRow G N ρ t) (k : ∀ q ∈ N, q.1 = t.P → q ∈ N') : TabRow G N' ρ' t := by
  obtain ⟨ps, h1, h2⟩ := h
  refine ⟨ps, k _ h1 rfl, h2.imp id ?_⟩
  rintro ⟨c', oc, vs, u, e, h3, h4, h5, h6⟩
  have g : Good oc := .inr (.inr (.inr ⟨_, _, _, h5, h6⟩))
  exact ⟨c', oc, vs, u, e, (x.sub _ h3 h4 g).1, (x.sub _ h3 h4 g).2, h5, h6⟩
theorem TabRow.keep {N' : Led} {ρ' : Rho} (x : Ext G N ρ N' ρ') {t : Tb} (h : TabRow G N ρ t) (k : ∀ q ∈ N, q.1 = t.P → q ∈ N') : TabRow G N' ρ' t := h.keepT x.tr k

noncomputable def Fresh (N : Led) (a : Addr) : Prop := ∀ p ∈ N, p.1 ≠ a
theorem Fresh.lt {N : Led} {a : Addr} (h : ∀ p ∈ N, p.1 < a) : Fresh N a := fun p hp => Nat.ne_of_lt (h p hp)
namespace Inv
theorem get (I : Inv G h₀ L m N ρ σ h tk) {i : Nat} {p : Addr × Addr} (e : ρ.l[i]? = some p) : ∃ mo, σ[i]? = some mo ∧ OR G N ρ p mo := by
  have hi := (List.getElem?_eq_some_iff.mp e).1
  rw [I.len] at hi
  obtain ⟨p', e', o⟩ := I.so i σ[i] (List.getElem?_eq_getElem hi)
  rw [e] at e'; (first | exact (no e').elim | cases e')
  exact ⟨_, List.getElem?_eq_getElem hi, o⟩
theorem mtsIn (I : Inv G h₀ L m N ρ σ h tk) {a : Addr} (ha : a ∈ mts G ρ) : ∃ o, (a, o) ∈ N := by
  rcases List.mem_append.mp ha with ha | ha
  · rcases List.mem_append.mp ha with ha | ha
    · obtain ⟨t, ht, rfl⟩ := List.mem_map.mp ha
      obtain ⟨ps, h, _⟩ := I.tb t ht
      exact ⟨_, h⟩
    · obtain ⟨⟨x, y, h⟩, _⟩ := I.fz a ha
      exact ⟨_, h⟩
  obtain ⟨p, hp, ha⟩ := List.mem_flatMap.mp ha
  obtain ⟨i, e⟩ := List.mem_iff_getElem?.mp hp
  obtain ⟨mo, _, o⟩ := I.get e
  rcases List.mem_cons.mp ha with rfl | ha
  · exact o.mem.1
  · rw [List.mem_singleton.mp ha]; exact o.mem.2
theorem mtsLt (I : Inv G h₀ L m N ρ σ h tk) {a : Addr} (ha : a ∈ mts G ρ) : a < h.objs.size := by
  obtain ⟨o, ho⟩ := I.mtsIn ha
  exact Heap.lt_size (I.W _ ho).1
theorem fresh (I : Inv G h₀ L m N ρ σ h tk) {a : Addr} (ha : h.objs.size ≤ a) : Fresh N a := fun p hm e => absurd (Heap.lt_size (I.W p hm).1) (Nat.not_lt.mpr (e ▸ ha))
theorem off (I : Inv G h₀ L m N ρ σ h tk) {a : Addr} (ha : Fresh N a) : a ∉ mts G ρ ∧ ∀ o, (a, o) ∉ N :=
  ⟨fun hm => let ⟨_, ho⟩ := I.mtsIn hm; ha _ ho rfl, fun _ hm => ha _ hm rfl⟩

/-- the heap grown, nothing new known -/
theorem grown (I : Inv G h₀ L m N ρ σ h tk) (le : tk ≤ tk') {h' : Heap} (F : Fr h₀ L h' m) (W : News h₀ L h' N) : Inv G h₀ L m N ρ σ h' tk' := ⟨F, W, I.nd, I.len, I.ap, I.so, I.tb, I.bk.mono le, I.fz⟩

/-- rows put ahead of the ledger -/
theorem more (I : Inv G h₀ L m N ρ σ h tk) (le : tk ≤ tk') {h' : Heap} {new : Led} (F : Fr h₀ L h' m) (W : News h₀ L h' (new ++ N)) (hn : (new.map (·.1)).Nodup) (hs : ∀ p ∈ new, Fresh N p.1) :
    Inv G h₀ L m (new ++ N) ρ σ h' tk' ∧ Ext G N ρ (new ++ N) ρ := by
  have x : Ext G N ρ (new ++ N) ρ := ⟨fun q hq _ => List.mem_append_right _ hq, ⟨[], by simp⟩, Rho.le.refl _, fun a ha => .inl ha, fun a o ha => ⟨o, List.mem_append_right _ ha⟩⟩
  refine ⟨⟨F, W, ?_, I.len, I.ap, fun i mo e => ?_, fun t ht => (I.tb t ht).keep x fun q hq _ => List.mem_append_right _ hq, I.bk.mono le, fun a ha => let ⟨⟨u, v, h⟩, hn⟩ := I.fz a ha; ⟨⟨u, v, List.mem_append_right _ h⟩, hn⟩⟩, x⟩
  · rw [List.map_append]
    refine List.nodup_append.mpr ⟨hn, I.nd, fun a ha b hb e => ?_⟩
    obtain ⟨p, hp, rfl⟩ := List.mem_map.mp ha
    obtain ⟨q, hq, rfl⟩ := List.mem_map.mp hb
    exact (hs p hp) q hq e.symm
  · obtain ⟨p, e', o⟩ := I.so i mo e
    exact ⟨p, e', o.keep x fun q hq _ => List.mem_append_right _ hq⟩
theorem one (I : Inv G h₀ L m N ρ σ h tk) {o : Obj} (hf : o.isFreed = false := by rfl) :
    Inv G h₀ L m ((h.objs.size, o) :: N) ρ σ (h.push o) tk ∧ Ext G N ρ ((h.objs.size, o) :: N) ρ :=
  I.more (tk' := tk) (Nat.le_refl _) (new := [(h.objs.size, o)]) (I.F.push _) (I.W.push I.F o hf) (by simp) (fun p hp => by rw [List.mem_singleton.mp hp]; exact I.fresh (Nat.le_refl _))

/-- an object of the store more -/
theorem alloc (I : Inv G h₀ L m N ρ σ h tk) (le : tk ≤ tk') {h' : Heap} {new : Led} {p : Addr × Addr} {mo : MO} (F : Fr h₀ L h' m) (W : News h₀ L h' (new ++ N)) (hn : (new.map (·.1)).Nodup) (hs : ∀ q ∈ new, Fresh N q.1)
    (hp1 : Fresh N p.1) (hp2 : Fresh N p.2) (ho : ∀ ρ', Ext G N ρ (new ++ N) ρ' → OR G (new ++ N) ρ' p mo) :
    Inv G h₀ L m (new ++ N) (ρ.add p) (σ ++ [mo]) h' tk' ∧ Ext G N ρ (new ++ N) (ρ.add p) := by
  have x : Ext G N ρ (new ++ N) (ρ.add p) := ⟨fun q hq _ => List.mem_append_right _ hq, ⟨[p], rfl⟩, ⟨fun _ h => h, fun _ h => h, rfl⟩, fun a ha => by
    rw [mts_append] at ha
    rcases List.mem_append.mp ha with ha | ha
    · exact .inl ha
    · refine .inr (I.off ?_).2
      simp [pairsL] at ha
      rcases ha with rfl | rfl <;> assumption, fun a o ha => ⟨o, List.mem_append_right _ ha⟩⟩
  refine ⟨⟨F, W, ?_, by simp [I.len, Rho.app], ?_, fun i mo' e => ?_, fun t ht => (I.tb t ht).keep x fun q hq _ => List.mem_append_right _ hq, (let z := I.bk.mono le; ⟨z.pos, z.c, z.l, z.d⟩), fun a ha => ?_⟩, x⟩
  · rw [List.map_append]
    refine List.nodup_append.mpr ⟨hn, I.nd, fun a ha b hb e => ?_⟩
    obtain ⟨p, hp, rfl⟩ := List.mem_map.mp ha
    obtain ⟨q, hq, rfl⟩ := List.mem_map.mp hb
    exact (hs p hp) q hq e.symm
  · refine List.pairwise_append.mpr ⟨I.ap, by simp, fun q hq r hr => ?_⟩
    rw [List.mem_singleton.mp hr]
    obtain ⟨i, e⟩ := List.mem_iff_getElem?.mp hq
    obtain ⟨o1, l1⟩ := I.mtsIn (mem_mts G e).1
    obtain ⟨o2, l2⟩ := I.mtsIn (mem_mts G e).2
    exact ⟨hp1 _ l1, hp2 _ l1, hp1 _ l2, hp2 _ l2⟩
  · by_cases hi : i < σ.length
    · rw [List.getElem?_append_left hi] at e
      obtain ⟨p', e', o⟩ := I.so i mo' e
      exact ⟨p', x.get e', o.keep x fun q hq _ => List.mem_append_right _ hq⟩
    · rw [List.getElem?_append_right (Nat.not_lt.mp hi)] at e
      have hi0 : i - σ.length = 0 := by
        cases hh : i - σ.length with
        | zero => rfl
        | succ k => rw [hh] at e; simp at e
      rw [hi0] at e
      simp at e
      subst e
      refine ⟨p, ?_, ho _ x⟩
      show (ρ.l ++ [p])[i]? = some p
      rw [List.getElem?_append_right (by rw [I.len]; exact Nat.not_lt.mp hi), I.len, hi0]; rfl
  · obtain ⟨⟨u, v, h⟩, hn⟩ := I.fz a ha
    refine ⟨⟨u, v, List.mem_append_right _ h⟩, fun hm => ?_⟩
    have hm' : a ∈ pairsOf ρ ++ pairsL [p] := by simpa [pairsOf, pairsL, Rho.app] using hm
    rcases List.mem_append.mp hm' with hm | hm
    · exact hn hm
    · simp [pairsL] at hm
      rcases hm with e | e
      · exact hp1 _ h e
      · exact hp2 _ h e

/-- an object of the store turned: one row of the ledger, at one of its addresses -/
theorem turn (I : Inv G h₀ L m N ρ σ h tk) (le : tk ≤ tk') {h' : Heap} {i : Nat} {p : Addr × Addr} {a : Addr} {o o' : Obj} {mo : MO} (F : Fr h₀ L h' m) (W : News h₀ L h' (upd a o' N)) (hi : ρ.l[i]? = some p) (ha : a = p.1 ∨ a = p.2)
    (hm : (a, o) ∈ N) (hno : ∀ ps, o ≠ tabObj ps) (ho : Ext G N ρ (upd a o' N) ρ → OR G (upd a o' N) ρ p mo) : Inv G h₀ L m (upd a o' N) ρ (setAt mo σ i) h' tk' ∧ Ext G N ρ (upd a o' N) ρ := by
  have ham : a ∈ mts G ρ := by
    have := mem_mts G hi
    rcases ha with rfl | rfl
    · exact this.1
    · exact this.2
  have x : Ext G N ρ (upd a o' N) ρ := ⟨fun q hq hn => upd_mem hq fun e => hn (e ▸ ham), ⟨[], by simp⟩, Rho.le.refl _, fun b hb => .inl hb, fun b ob hb => by
    by_cases e : b = a
    · subst e; exact ⟨o', upd_self hm⟩
    · exact ⟨ob, upd_mem hb e⟩⟩
  refine ⟨⟨F, W, by rw [upd_map]; exact I.nd, by rw [setAt_eq]; simp [I.len], I.ap, fun j mo' e => ?_, fun t ht => (I.tb t ht).keep x fun q hq hqt => upd_mem hq fun hqa => ?_, I.bk.mono le, fun b hb => ?_⟩, x⟩
  rw [setAt_eq] at e
  by_cases hij : i = j
  · subst hij
    have hlt : i < σ.length := by
      have := (List.getElem?_eq_some_iff.mp hi).1
      rwa [I.len] at this
    rw [List.getElem?_set_self hlt] at e
    (first | exact (no e).elim | cases e)
    exact ⟨p, hi, ho x⟩
  · rw [List.getElem?_set_ne hij] at e
    obtain ⟨p', e', oj⟩ := I.so j mo' e
    refine ⟨p', e', oj.keep x fun q hq hqp => upd_mem hq fun hqa => ?_⟩
    have off : Off2 p p' ∨ Off2 p' p := by
      have g := List.pairwise_iff_getElem.mp I.ap
      obtain ⟨l1, e1⟩ := List.getElem?_eq_some_iff.mp hi
      obtain ⟨l2, e2⟩ := List.getElem?_eq_some_iff.mp e'
      rcases Nat.lt_or_gt_of_ne hij with lt | lt
      · exact .inl (e1 ▸ e2 ▸ g i j l1 l2 lt)
      · exact .inr (e1 ▸ e2 ▸ g j i l2 l1 lt)
    rw [hqa] at hqp
    rcases off with ⟨o1, o2, o3, o4⟩ | ⟨o1, o2, o3, o4⟩ <;> rcases ha with e1 | e1 <;> rcases hqp with e2 | e2 <;> rw [e1] at e2 <;> first | exact o1 e2 | exact o2 e2 | exact o3 e2 | exact o4 e2 | exact o1 e2.symm | exact o2 e2.symm | exact o3 e2.symm | exact o4 e2.symm
  · obtain ⟨ps, h1, _⟩ := I.tb t ht
    exact hno ps (nodup_row I.nd hm (by rw [← hqa, hqt]; exact h1))
  · obtain ⟨⟨u, v, h⟩, hn⟩ := I.fz b hb
    refine ⟨⟨u, v, upd_mem h fun e => hn ?_⟩, hn⟩
    have e' : b = a := e
    have := mem_pairs hi
    rw [e']
    rcases ha with rfl | rfl
    · exact this.1
    · exact this.2
/-- the one code of a table made -/
theorem tabs (I : Inv G h₀ L m N ρ σ h tk) (le : tk ≤ tk') {h' : Heap} {new : Led} {t : Tb} {ps ps' : Array Value} (hT : (G.TB.map (·.P)).Nodup) (ht : t ∈ G.TB) (hm : (t.P, tabObj ps) ∈ N) (F : Fr h₀ L h' m) (W : News h₀ L h' (new ++ upd t.P (tabObj ps') N))
    (hn : (new.map (·.1)).Nodup) (hs : ∀ p ∈ new, Fresh N p.1) (hps : ∃ c' oc vs u, ps' = #[rawInt t.pos.line, rawInt t.pos.col, .ref c'] ∧ (c', oc) ∈ new ∧ oc.data = .fields vs ∧ vs[1]? = some (.str t.qual u)) :
    Inv G h₀ L m (new ++ upd t.P (tabObj ps') N) ρ σ h' tk' ∧ Ext G N ρ (new ++ upd t.P (tabObj ps') N) ρ := by
  have ham : t.P ∈ mts G ρ := tab_mts G ht
  have up : ∀ q ∈ N, q.1 ≠ t.P → q ∈ new ++ upd t.P (tabObj ps') N := fun q hq hn => List.mem_append_right _ (upd_mem hq hn)
  have x : Ext G N ρ (new ++ upd t.P (tabObj ps') N) ρ := ⟨fun q hq hn => up q hq fun e => hn (e ▸ ham), ⟨[], by simp⟩, Rho.le.refl _, fun b hb => .inl hb, fun b ob hb => by
    by_cases e : b = t.P
    · subst e; exact ⟨tabObj ps', List.mem_append_right _ (upd_self hm)⟩
    · exact ⟨ob, up _ hb e⟩⟩
  refine ⟨⟨F, W, ?_, I.len, I.ap, fun i mo e => ?_, fun t' ht' => ?_, I.bk.mono le, fun b hb => ?_⟩, x⟩
  · rw [List.map_append, upd_map]
    refine List.nodup_append.mpr ⟨hn, I.nd, fun a ha b hb e => ?_⟩
    obtain ⟨p, hp, rfl⟩ := List.mem_map.mp ha
    obtain ⟨q, hq, rfl⟩ := List.mem_map.mp hb
    exact (hs p hp) q hq e.symm
  · obtain ⟨p, e', o⟩ := I.so i mo e
    refine ⟨p, e', o.keep x fun q hq hqp => up q hq fun hqa => ?_⟩
    exact o.noTab I.nd (hqp.imp (hqa.symm.trans ·) (hqa.symm.trans ·)) hm
  · by_cases e : t'.P = t.P
    · have : t' = t := by
        obtain ⟨i, hi, rfl⟩ := List.mem_iff_getElem.mp ht'
        obtain ⟨j, hj, rfl⟩ := List.mem_iff_getElem.mp ht
        have := (List.getElem_inj (h₀ := by simpa using hi) (h₁ := by simpa using hj) hT).mp (by simpa using e)
        subst this; rfl
      subst this
      obtain ⟨c', oc, vs, u, e1, h1, h2, h3⟩ := hps
      exact ⟨ps', List.mem_append_right _ (upd_self hm), .inr ⟨c', oc, vs, u, e1, List.mem_append_left _ h1, (I.off (hs _ h1)).1, h2, h3⟩⟩
    · exact (I.tb t' ht').keep x fun q hq hqt => up q hq (hqt ▸ e)
  · obtain ⟨⟨u, v, h⟩, hn⟩ := I.fz b hb
    refine ⟨⟨u, v, up _ h fun e => ?_⟩, hn⟩
    have e' : b = t.P := e
    rw [e'] at h
    exact absurd (congrArg Obj.cls (nodup_row I.nd h hm)) (by simp)
/-- a token more -/
theorem sign (I : Inv G h₀ L m N ρ σ h tk) : Inv G h₀ L m N (ρ.up tk) σ h (tk + 1) ∧ Ext G N ρ N (ρ.up tk) := by
  have x : Ext G N ρ N (ρ.up tk) := ⟨fun _ h => fun _ => h, ⟨[], by simp [Rho.up]⟩, ⟨fun _ h => List.mem_cons_of_mem _ h, fun _ h => h, rfl⟩, fun _ h => .inl h, fun _ o h => ⟨o, h⟩⟩
  refine ⟨⟨I.F, I.W, I.nd, I.len, I.ap, fun i mo e => let ⟨p, e', o⟩ := I.so i mo e; ⟨p, e', o.keep x fun q hq _ => hq⟩, fun t ht => (I.tb t ht).keep x fun q hq _ => hq, ⟨Nat.succ_pos _, fun t ht => ?_, fun t ht => ?_, fun t ht hl => ?_⟩, I.fz⟩, x⟩
  · rcases List.mem_cons.mp ht with rfl | ht
    · exact ⟨I.bk.pos, Nat.lt_succ_self _⟩
    · exact ⟨(I.bk.c t ht).1, Nat.lt_succ_of_lt (I.bk.c t ht).2⟩
  · exact ⟨(I.bk.l t ht).1, Nat.lt_succ_of_lt (I.bk.l t ht).2⟩
  · rcases List.mem_cons.mp ht with rfl | ht
    · exact absurd (I.bk.l _ hl).2 (Nat.lt_irrefl _)
    · exact I.bk.d t ht hl
theorem lit (I : Inv G h₀ L m N ρ σ h tk) : Inv G h₀ L m N (ρ.upl tk) σ h (tk + 1) ∧ Ext G N ρ N (ρ.upl tk) := by
  have x : Ext G N ρ N (ρ.upl tk) := ⟨fun _ h => fun _ => h, ⟨[], by simp [Rho.upl]⟩, ⟨fun _ h => h, fun _ h => List.mem_cons_of_mem _ h, rfl⟩, fun _ h => .inl h, fun _ o h => ⟨o, h⟩⟩
  refine ⟨⟨I.F, I.W, I.nd, I.len, I.ap, fun i mo e => let ⟨p, e', o⟩ := I.so i mo e; ⟨p, e', o.keep x fun q hq _ => hq⟩, fun t ht => (I.tb t ht).keep x fun q hq _ => hq, ⟨Nat.succ_pos _, fun t ht => ?_, fun t ht => ?_, fun t ht hl => ?_⟩, I.fz⟩, x⟩
  · exact ⟨(I.bk.c t ht).1, Nat.lt_succ_of_lt (I.bk.c t ht).2⟩
  · rcases List.mem_cons.mp ht with rfl | ht
    · exact ⟨I.bk.pos, Nat.lt_succ_self _⟩
    · exact ⟨(I.bk.l t ht).1, Nat.lt_succ_of_lt (I.bk.l t ht).2⟩
  · rcases List.mem_cons.mp hl with rfl | hl
    · exact absurd (I.bk.c _ ht).2 (Nat.lt_irrefl _)
    · exact I.bk.d t ht hl
end Inv
end
end Mine

open PySem PySem.W PyProof.Rows PySem.Calls
namespace Mine
set_option autoImplicit false
set_option backward.match.sparseCases false
set_option linter.unusedVariables false

/-! ## texts -/
noncomputable abbrev tx (l : List Nat) : Str := ⟨l.toArray⟩
theorem eqL_iff : ∀ (a b : List Nat), eqL a b = true ↔ a = b
  | [], [] => ⟨fun _ => rfl, fun _ => rfl⟩
  | [], _ :: _ => ⟨fun h => (nomatch (show false = true from h)), fun h => (nomatch h)⟩
  | _ :: _, [] => ⟨fun h => (nomatch (show false = true from h)), fun h => (nomatch h)⟩
  | a :: as, b :: bs => by
    simp only [eqL_cons, Bool.and_eq_true, List.cons.injEq, eqL_iff as bs]
    rw [Nat.beq_eq]
theorem eqL_dec (a b : List Nat) : eqL a b = decide (a = b) := by
  rw [Bool.eq_iff_iff, eqL_iff, decide_eq_true_eq]
theorem tx_inj {a b : List Nat} : tx a = tx b ↔ a = b := by
  constructor
  · intro h; have := congrArg (fun x : Str => x.cps.toList) h; simpa using this
  · rintro rfl; rfl
theorem tx_beq (a b : List Nat) : (tx a == tx b) = eqL a b := by
  rw [Bool.eq_iff_iff, beq_iff_eq, tx_inj, eqL_iff]
theorem tx_append (a b : List Nat) : tx a ++ tx b = tx (a ++ b) := by
  apply Str.ext'
  show (Str.append (tx a) (tx b)).cps = _
  simp [Str.append]
theorem tx_len (a : List Nat) : (tx a).length = a.length := by simp [Str.length]
theorem memN_iff (c : Nat) : ∀ l : List Nat, memN c l = true ↔ c ∈ l
  | [] => ⟨fun h => (nomatch (show false = true from h)), fun h => (nomatch h)⟩
  | a :: l => by
    simp only [memN_cons, Bool.or_eq_true, memN_iff c l, List.mem_cons, Nat.beq_eq]
    exact ⟨fun h => h.imp Eq.symm id, fun h => h.imp Eq.symm id⟩
theorem memN_found (c : Nat) (l : List Nat) : (!(Builtin.Str.occurrences (tx l) (tx [c]) 0 (tx l).length 1).isEmpty) = memN c l := by
  rw [StrLaws.found_one, Bool.eq_iff_iff, decide_eq_true_eq, memN_iff]
theorem lenOk_le {n : Nat} (h : lenOk n = true) : n ≤ 4096 := Nat.le_of_ble_eq_true h
theorem lenOk_line {n : Nat} (h : lenOk n = true) : n ≤ sizeLine := by
  have := lenOk_le h
  rw [sizeLine_eq]; omega

theorem pick_cut (l : List Nat) (a b : Nat) : ((sliceRange (a : Int) (b : Int) 1).filterMap fun x => l.toArray[x]?) = (l.take b).drop a := by
  rw [sliceRange_one, List.drop_take, pick_run]
noncomputable def oi (x : Option Nat) : Option Int := x.map Int.ofNat
theorem idx_cut (n : Nat) (lo hi : Option Nat) : Builtin.Str.strSliceIndices (oi lo) (oi hi) 1 n = sliceRange ((min (lo.getD 0) n : Nat) : Int) ((match hi with | some b => min b n | none => n : Nat) : Int) 1 := by
  unfold Builtin.Str.strSliceIndices
  cases lo <;> cases hi <;> simp only [oi, Option.map_some, Option.map_none, Option.getD_none, Option.getD_some] <;> simp only [show (1 : Int) > 0 by decide, if_true] <;> congr 1 <;> simp <;> omega
theorem cut_clip (l : List Nat) (lo hi : Option Nat) : (l.take (match hi with | some b => min b l.length | none => l.length)).drop (min (lo.getD 0) l.length) = cut l lo hi := by
  show _ = ((match hi with | some n => l.take n | none => l).drop (lo.getD 0))
  have e : l.take (match hi with | some b => min b l.length | none => l.length) = (match hi with | some n => l.take n | none => l) := by
    cases hi with
    | none => simp
    | some b => simp only []; rw [List.take_eq_take_iff]; omega
  rw [e]
  generalize hq : (match hi with | some n => l.take n | none => l) = q
  try rw [hq]
  have hlen : q.length ≤ l.length := by
    subst hq
    cases hi with
    | none => exact Nat.le_refl _
    | some b => simp only [List.length_take]; omega
  by_cases h : lo.getD 0 ≤ l.length
  · rw [Nat.min_eq_left h]
  · have h1 : min (lo.getD 0) l.length = l.length := by omega
    rw [h1, List.drop_eq_nil_of_le hlen, List.drop_eq_nil_of_le (by omega)]
theorem slice_cut (l : List Nat) (lo hi : Option Nat) : Txt.slice (tx l) (oi lo) (oi hi) = tx (cut l lo hi) := by
  have key : (Builtin.Str.strSliceIndices (oi lo) (oi hi) 1 (tx l).length).filterMap (fun x => (tx l).cps[x]?) = cut l lo hi := by
    rw [tx_len, idx_cut]
    show ((sliceRange _ _ 1).filterMap fun x => l.toArray[x]?) = _
    rw [pick_cut, cut_clip]
  unfold Txt.slice
  split
  · rename_i h
    have h2 : (Builtin.Str.strSliceIndices (oi lo) (oi hi) 1 (tx l).length).length = l.length := by
      simpa [Str.length] using h
    rw [tx_inj.symm.symm]
    rw [tx_len, idx_cut, sliceRange_one] at h2
    rw [List.length_map, List.length_range] at h2
    rw [← cut_clip]
    generalize ha : min (lo.getD 0) l.length = a at h2 ⊢
    generalize hb : (match hi with | some b => min b l.length | none => l.length) = b at h2 ⊢
    have hbl : b ≤ l.length := by subst hb; split <;> omega
    by_cases hz : l.length = 0
    · have : l = [] := List.length_eq_zero_iff.mp hz
      subst this; simp
    · have : a = 0 := by omega
      have : b = l.length := by omega
      subst_vars
      simp_all
  · rw [← key]
end Mine

open PySem PySem.W PyProof.Rows PySem.Calls
namespace Mine
set_option autoImplicit false
set_option backward.match.sparseCases false
set_option linter.unusedVariables false

/-! ## the judgement -/
section
variable (G : St)
/-- from the state s, at the ledger N, ρ: the tree ends in a value that R takes, at a store σ' -/
noncomputable def Wp {α : Type} (A : Around) (h₀ : Heap) (L : Addr) (m : Str → Option Value) (t : Sem α) (σ' : List MO) (R : α → Led → Rho → Prop) (N : Led) (ρ : Rho) (s : Shared) : Prop :=
  ∀ (Q : α → Shared → Prop) (E : Value → Shared → Prop),
    (∀ a h' tk N' ρ', Inv G h₀ L m N' ρ' σ' h' tk → Ext G N ρ N' ρ' → R a N' ρ' → Q a { s with heap := h', toks := tk }) → wpAny (model G.prog G.w) A t Q E s
noncomputable abbrev VR (mv : MV) : Value → Led → Rho → Prop := fun v N ρ => RV G N ρ v mv
noncomputable abbrev VRs (ms : List MV) : List Value → Led → Rho → Prop := fun vs N ρ => RVs G N ρ vs ms
noncomputable abbrev BR (b : Bool) : Bool → Led → Rho → Prop := fun c _ _ => c = b
noncomputable abbrev UR : Unit → Led → Rho → Prop := fun _ _ _ => True
end

section
variable {G : St} {A : Around} {h₀ : Heap} {L : Addr} {m : Str → Option Value} {N : Led} {ρ : Rho} {σ σ' σ'' : List MO} {s : Shared}

theorem Wp.same {α : Type} {t : Sem α} {R : α → Led → Rho → Prop} {a : α} {tk : Nat} (I : Inv G h₀ L m N ρ σ s.heap s.toks) (r : R a N ρ)
    (h : ∀ (Q : α → Shared → Prop) (E : Value → Shared → Prop), Q a { s with toks := tk } → wpAny (model G.prog G.w) A t Q E s) : Wp G A h₀ L m t σ R N ρ s :=
  fun Q E k => toksUp (h _ E fun le => k a s.heap tk N ρ (I.grown le I.F I.W) (Ext.refl _ _ _) r)
theorem Wp.same' {α : Type} {t : Sem α} {R : α → Led → Rho → Prop} {a : α} (I : Inv G h₀ L m N ρ σ s.heap s.toks) (r : R a N ρ)
    (h : ∀ (Q : α → Shared → Prop) (E : Value → Shared → Prop), Q a s → wpAny (model G.prog G.w) A t Q E s) : Wp G A h₀ L m t σ R N ρ s :=
  fun Q E k => h Q E (k a s.heap s.toks N ρ I (Ext.refl _ _ _) r)
theorem Wp.pure {α : Type} {R : α → Led → Rho → Prop} {a : α} (I : Inv G h₀ L m N ρ σ s.heap s.toks) (r : R a N ρ) : Wp G A h₀ L m (pure a) σ R N ρ s := Wp.same' I r fun _ _ q => wpAny_pure q
theorem Wp.bind {α β : Type} {t : Sem α} {f : α → Sem β} {R : α → Led → Rho → Prop} {R' : β → Led → Rho → Prop} (ht : Wp G A h₀ L m t σ R N ρ s)
    (hf : ∀ a h₁ tk N₁ ρ₁, Inv G h₀ L m N₁ ρ₁ σ h₁ tk → Ext G N ρ N₁ ρ₁ → R a N₁ ρ₁ → Wp G A h₀ L m (f a) σ' R' N₁ ρ₁ { s with heap := h₁, toks := tk }) : Wp G A h₀ L m (t >>= f) σ' R' N ρ s :=
  fun Q E k => wpAny_bind (ht _ _ fun a h₁ tk N₁ ρ₁ I₁ x₁ r₁ => hf a h₁ tk N₁ ρ₁ I₁ x₁ r₁ Q E fun b h₂ tk₂ N₂ ρ₂ I₂ x₂ r₂ => k b h₂ tk₂ N₂ ρ₂ I₂ (x₁.trans x₂) r₂)
theorem Wp.mono {α : Type} {t : Sem α} {R R' : α → Led → Rho → Prop} (ht : Wp G A h₀ L m t σ R N ρ s) (h : ∀ a N' ρ', Ext G N ρ N' ρ' → R a N' ρ' → R' a N' ρ') : Wp G A h₀ L m t σ R' N ρ s :=
  fun Q E k => ht Q E fun a h' tk N' ρ' I x r => k a h' tk N' ρ' I x (h a N' ρ' x r)
theorem Wp.stand {α : Type} {p : Pos} {t : Sem α} {R : α → Led → Rho → Prop} (ht : Wp G A h₀ L m t σ R N ρ s) : Wp G A h₀ L m (standAt p >>= fun _ => t) σ R N ρ s :=
  fun Q E k => wpAny_bind (wpAny_standAt (ht Q E k))
theorem Wp.hold {α : Type} {vs : List Value} {t : Sem α} {R : α → Led → Rho → Prop} (ht : Wp G A h₀ L m t σ R N ρ s) : Wp G A h₀ L m (holding vs t) σ R N ρ s :=
  fun Q E k => wpAny_holding (ht Q E k)
theorem Wp.oper {vs : List Value} {t : Sem Value} {R : Value → Led → Rho → Prop} (ht : Wp G A h₀ L m t σ R N ρ s) : Wp G A h₀ L m (operate vs t) σ R N ρ s :=
  fun Q E k => wpAny_operating (ht Q E k)

/-- a sign made: its token is known from here on -/
theorem Wp.sign {t : Sem Value} {c : Nat} (I : Inv G h₀ L m N ρ σ s.heap s.toks)
    (h : ∀ (Q : Value → Shared → Prop) (E : Value → Shared → Prop), Q (.str ⟨[c].toArray⟩ s.toks) { s with toks := s.toks + 1 } → wpAny (model G.prog G.w) A t Q E s) : Wp G A h₀ L m t σ (VR G (.chr c)) N ρ s := by
  intro Q E k
  have J := I.sign
  exact h Q E (k _ s.heap (s.toks + 1) N (ρ.up s.toks) J.1 J.2 (.chr (List.mem_cons_self ..)))

theorem Wp.lit {t : Sem Value} (I : Inv G h₀ L m N ρ σ s.heap s.toks)
    (h : ∀ (Q : Value → Shared → Prop) (E : Value → Shared → Prop), Q (.str ⟨[].toArray⟩ s.toks) { s with toks := s.toks + 1 } → wpAny (model G.prog G.w) A t Q E s) : Wp G A h₀ L m t σ (VR G .emp) N ρ s := by
  intro Q E k
  have J := I.lit
  exact h Q E (k _ s.heap (s.toks + 1) N (ρ.upl s.toks) J.1 J.2 (.emp (List.mem_cons_self ..)))

/-! ### arithmetic -/
theorem newL_ok {xs : List MV} {ws : List Value} {mv : MV} (e : newL σ xs = some (mv, σ')) (hx : RVs G N ρ ws xs) (I : Inv G h₀ L m N ρ σ s.heap s.toks) {t : Sem Value}
    (h : ws.length ≤ 4096 → ∀ (Q : Value → Shared → Prop) (E : Value → Shared → Prop), (∀ D h' tk, Fr h₀ L h' m → News h₀ L h' ((D, listOf ws.toArray 0) :: N) → (∀ p ∈ N, p.1 < D) → Q (.ref D) { s with heap := h', toks := tk }) → wpAny (model G.prog G.w) A t Q E s) :
    Wp G A h₀ L m t σ' (VR G mv) N ρ s := by
  unfold newL at e
  cases hl : lenOk xs.length with
  | false => rw [hl] at e; (first | exact (no e).elim | cases e)
  | true =>
    rw [hl] at e; (first | exact (no e).elim | cases e)
    intro Q E k
    refine toksUp (h (hx.length ▸ lenOk_le hl) _ E fun D h' tk F' W' hlt le => ?_)
    have fr : Fresh N D := .lt hlt
    have J := I.alloc le (new := [(D, listOf ws.toArray 0)]) (p := (D, D)) (mo := .list xs) F' W' (by simp) (by simpa using fr) fr fr (fun ρ' x => .list (List.mem_cons_self ..) (hx.mono x))
    refine k _ h' tk _ _ J.1 J.2 ?_
    have : (ρ.add (D, D)).l[σ.length]? = some (D, D) := by rw [← I.len]; simp [Rho.app]
    exact .ref (p := (D, D)) this
theorem bII_ok {f : Int → Int → Option Int} {a b mv : MV} {va vb : Value} {t : Sem Value} (e : bII σ f a b = some (mv, σ')) (ha : RV G N ρ va a) (hb : RV G N ρ vb b) (I : Inv G h₀ L m N ρ σ s.heap s.toks)
    (h : ∀ x u y w z, va = .int x u → vb = .int y w → f x y = some z → Wp G A h₀ L m t σ (VR G (.int z)) N ρ s) : Wp G A h₀ L m t σ' (VR G mv) N ρ s := by
  unfold bII at e
  split at e
  · split at e
    · rename_i x _ y
      cases hz : f x y with
      | none => rw [hz] at e; (first | exact (no e).elim | cases e)
      | some z =>
        rw [hz] at e; (first | exact (no e).elim | cases e)
        (first | obtain ⟨_, rfl⟩ := ha.inv | obtain rfl := ha.inv | cases ha); (first | obtain ⟨_, rfl⟩ := hb.inv | obtain rfl := hb.inv | cases hb)
        exact h _ _ _ _ z rfl rfl hz
    · (first | exact (no e).elim | cases e)
  · (first | exact (no e).elim | cases e)
theorem list_at {i : Nat} {p : Addr × Addr} {xs : List MV} (I : Inv G h₀ L m N ρ σ s.heap s.toks) (hp : ρ.l[i]? = some p) (e : at? σ i = some (.list xs)) : ∃ ws n, (p.1, listOf ws.toArray n) ∈ N ∧ RVs G N ρ ws xs ∧ p = (p.1, p.1) := by
  rw [at?_eq] at e
  obtain ⟨p', hp', o⟩ := I.so i _ e
  rw [hp] at hp'; cases hp'
  cases o with
  | list h1 h2 => exact ⟨_, _, h1, h2, rfl⟩
theorem isList {a : Addr} {ws : List Value} {n : Nat} (I : Inv G h₀ L m N ρ σ s.heap s.toks) (h : (a, listOf ws.toArray n) ∈ N) : s.heap.IsList a ws.toArray := ⟨_, (I.W _ h).1, rfl, n, rfl⟩
theorem isTup {a : Addr} {ws : List Value} {n : Nat} (I : Inv G h₀ L m N ρ σ s.heap s.toks) (h : (a, tupO ws n) ∈ N) : IsTup s.heap a ws.toArray := ⟨_, (I.W _ h).1, rfl, n, rfl⟩
theorem binop_ok {op : Operator} {a b mv : MV} {va vb : Value} (e : binop σ op a b = some (mv, σ')) (ha : RV G N ρ va a) (hb : RV G N ρ vb b) (I : Inv G h₀ L m N ρ σ s.heap s.toks) (hL : h₀.NoLimit) :
    Wp G A h₀ L m (binaryOp op va vb) σ' (VR G mv) N ρ s := by
  cases op <;> try (exact (no e).elim)
  · -- Add
    simp only [binop] at e
    unfold bAdd at e
    split at e
    · split at e
      · (first | exact (no e).elim | cases e)
        (first | obtain ⟨_, rfl⟩ := ha.inv | obtain rfl := ha.inv | cases ha); (first | obtain ⟨_, rfl⟩ := hb.inv | obtain rfl := hb.inv | cases hb)
        exact Wp.same I (.int _ s.toks) fun Q E q => add_int q
      · (first | exact (no e).elim | cases e)
    · split at e
      · cases hl : lenOk _ with
        | false => rw [hl] at e; (first | exact (no e).elim | cases e)
        | true =>
          rw [hl] at e
          (first | exact (no e).elim | cases e)
          (first | obtain ⟨_, rfl⟩ := ha.inv | obtain rfl := ha.inv | cases ha); (first | obtain ⟨_, rfl⟩ := hb.inv | obtain rfl := hb.inv | cases hb)
          intro Q E k
          refine toksUp (add_str (fun t' tk le => ?_) (by rw [tx_len, tx_len]; exact lenOk_line hl))
          rw [tx_append]
          exact k _ s.heap tk N ρ (I.grown le I.F I.W) (Ext.refl _ _ _) (.str _ _)
      · (first | exact (no e).elim | cases e)
    · rename_i i
      unfold addL at e
      split at e
      · rename_i xs hxs
        split at e
        · rename_i j
          unfold addLL at e
          split at e
          · rename_i ys hys
            obtain ⟨_, hi, rfl⟩ := ha.inv; obtain ⟨_, hj, rfl⟩ := hb.inv
            obtain ⟨ws, n, h1, h2, h3⟩ := list_at I hi hxs
            obtain ⟨us, k, g1, g2, g3⟩ := list_at I hj hys
            refine newL_ok e (h2.append g2) I fun hz Q E q => ?_
            refine kmk_add_lit I.F I.W (isList I h1) (isList I g1) (zs := ws ++ us) (by simp) (fun D h' F' W' hlt => q D h' s.toks F' W' hlt) ?_
            rw [List.length_append] at hz
            simp only [sizeLine_eq] at *
            show ws.toArray.toList.length + us.toArray.toList.length ≤ _
            simp; omega
          · (first | exact (no e).elim | cases e)
        · (first | exact (no e).elim | cases e)
      · (first | exact (no e).elim | cases e)
    · (first | exact (no e).elim | cases e)
  · -- Sub
    exact bII_ok e ha hb I fun x u y w z e1 e2 hz => by subst e1 e2; (first | exact (no hz).elim | cases hz); exact Wp.same I (.int _ s.toks) fun Q E q => sub_int q
  · -- Mod
    by_cases hmd : ∃ M r, a = .md M r
    · obtain ⟨M, r, rfl⟩ := hmd
      have e : mdMod σ M r b = some (mv, σ') := e
      unfold mdMod at e
      split at e
      · rename_i d _
        cases hb0 : Nat.beq (M % (d + 1)) 0 with
        | false => rw [hb0] at e; (first | exact (no e).elim | cases e)
        | true =>
          rw [hb0] at e; (first | exact (no e).elim | cases e)
          have hd := Nat.eq_of_beq_eq_true hb0
          (first | obtain ⟨_, rfl⟩ := hb.inv | obtain rfl := hb.inv | cases hb)
          obtain ⟨_, _, hx, rfl⟩ := ha.inv
          rename_i x t
          have e1 : Int.fmod (x : Int) (Int.ofNat (d + 1)) = Int.ofNat (r % (d + 1)) := by
            show Int.fmod (x : Int) ((d + 1 : Nat) : Int) = ((r % (d + 1) : Nat) : Int)
            rw [← Int.ofNat_fmod, ← hx, Nat.mod_mod_of_dvd _ (Nat.dvd_of_mod_eq_zero hd)]
          exact Wp.same I (.int _ s.toks) fun Q E q => PyProof.Rows.mod_int (Int.ofNat_ne_zero.mpr (Nat.succ_ne_zero d)) (by rw [e1]; exact q)
      · (first | exact (no e).elim | cases e)
    have e : bII σ (posI Int.fmod) a b = some (mv, σ') := by
      cases a <;> first | exact absurd ⟨_, _, rfl⟩ hmd | exact e
    exact bII_ok e ha hb I fun x u y w z e1 e2 hz => by
      subst e1 e2
      unfold posI at hz
      split at hz
      · rename_i n
        cases hl : lenOk (n + 1) with
        | false => rw [hl] at hz; (first | exact (no hz).elim | cases hz)
        | true =>
          rw [hl] at hz; (first | exact (no hz).elim | cases hz)
          exact Wp.same I (.int _ s.toks) fun Q E q => PyProof.Rows.mod_int (Int.ofNat_ne_zero.mpr (Nat.succ_ne_zero n)) q
      · (first | exact (no hz).elim | cases hz)
  · -- Pow
    exact bII_ok e ha hb I fun x u y w z e1 e2 hz => by
      subst e1 e2
      unfold powI at hz
      split at hz
      · rename_i n
        cases h1 : Nat.ble n 16 with
        | false => rw [h1] at hz; (first | exact (no hz).elim | cases hz)
        | true =>
          rw [h1] at hz
          cases h2 : Nat.ble x.natAbs 16 with
          | false => rw [h2] at hz; (first | exact (no hz).elim | cases hz)
          | true =>
            rw [h2] at hz; (first | exact (no hz).elim | cases hz)
            have := Nat.le_of_ble_eq_true h1
            have := Nat.le_of_ble_eq_true h2
            exact Wp.same I (.int _ s.toks) fun Q E q => PyProof.Rows.pow_int_small (by simp) (by simp; omega) (by omega) q
      · (first | exact (no hz).elim | cases hz)
  · -- FloorDiv
    by_cases hmd : ∃ M r, a = .md M r
    · obtain ⟨M, r, rfl⟩ := hmd
      have e : mdDiv σ M r b = some (mv, σ') := e
      unfold mdDiv at e
      split at e
      · rename_i d _
        cases hb0 : (lenOk (d + 1) && Nat.beq (M % (d + 1)) 0) with
        | false => rw [hb0] at e; (first | exact (no e).elim | cases e)
        | true =>
          rw [hb0] at e; (first | exact (no e).elim | cases e)
          obtain ⟨hl, hd⟩ := Bool.and_eq_true_iff.mp hb0
          have hd := Nat.eq_of_beq_eq_true hd
          have hl := lenOk_le hl
          (first | obtain ⟨_, rfl⟩ := hb.inv | obtain rfl := hb.inv | cases hb)
          obtain ⟨_, _, hx, rfl⟩ := ha.inv
          rename_i x t
          have e1 : Int.fdiv (x : Int) (Int.ofNat (d + 1)) = ((x / (d + 1) : Nat) : Int) := by
            show Int.fdiv (x : Int) ((d + 1 : Nat) : Int) = _
            rw [← Int.ofNat_fdiv]
          have e2 : (x / (d + 1)) % (M / (d + 1)) = r / (d + 1) := by
            rw [← hx, ← Nat.mod_mul_right_div_self, Nat.mul_div_cancel' (Nat.dvd_of_mod_eq_zero hd)]
          exact Wp.same I (.md (t := s.toks) e2) fun Q E q => PyProof.Rows.floordiv_int (Int.ofNat_ne_zero.mpr (Nat.succ_ne_zero d)) (by rw [e1]; exact q) (.inl (PyProof.noPylong_small (by show (d + 1) < _; omega)))
      · (first | exact (no e).elim | cases e)
    have e : bII σ (posI Int.fdiv) a b = some (mv, σ') := by
      cases a <;> first | exact absurd ⟨_, _, rfl⟩ hmd | exact e
    exact bII_ok e ha hb I fun x u y w z e1 e2 hz => by
      subst e1 e2
      unfold posI at hz
      split at hz
      · rename_i n
        cases hl : lenOk (n + 1) with
        | false => rw [hl] at hz; (first | exact (no hz).elim | cases hz)
        | true =>
          rw [hl] at hz; (first | exact (no hz).elim | cases hz)
          have := lenOk_le hl
          exact Wp.same I (.int _ s.toks) fun Q E q => PyProof.Rows.floordiv_int (Int.ofNat_ne_zero.mpr (Nat.succ_ne_zero n)) q (.inl (PyProof.noPylong_small (by show (n + 1) < _; omega)))
      · (first | exact (no hz).elim | cases hz)
theorem iop_ok {op : Operator} {a b mv : MV} {va vb : Value} (e : iop op a b = some mv) (ha : RV G N ρ va a) (hb : RV G N ρ vb b) (I : Inv G h₀ L m N ρ σ s.heap s.toks) :
    Wp G A h₀ L m (inplaceOp op va vb) σ (VR G mv) N ρ s := by
  cases op <;> try (exact (no e).elim)
  simp only [iop] at e
  split at e
  · split at e
    · (first | exact (no e).elim | cases e)
      (first | obtain ⟨_, rfl⟩ := ha.inv | obtain rfl := ha.inv | cases ha); (first | obtain ⟨_, rfl⟩ := hb.inv | obtain rfl := hb.inv | cases hb)
      exact Wp.same I (.int _ s.toks) fun Q E q => PyProof.Rows.iadd_int q
    · (first | exact (no e).elim | cases e)
  · (first | exact (no e).elim | cases e)
theorem neg_ok {i : Int} {v : Value} (hv : RV G N ρ v (.int i)) (I : Inv G h₀ L m N ρ σ s.heap s.toks) : Wp G A h₀ L m (unaryOp .USub v) σ (VR G (.int (-i))) N ρ s := by
  (first | obtain ⟨_, rfl⟩ := hv.inv | obtain rfl := hv.inv | cases hv)
  exact Wp.same I (.int _ s.toks) fun Q E q => neg_int q

/-! ### comparisons -/
theorem isNone_ok {a : MV} {va : Value} {b : Bool} (e : isNone a = some b) (ha : RV G N ρ va a) : (va == .none) = b := by
  cases ha <;> simp [isNone] at e <;> subst e <;> rfl
theorem cIs_ok {a b : MV} {va vb : Value} {c : Bool} (e : cIs a b = some c) (ha : RV G N ρ va a) (hb : RV G N ρ vb b) : vb = .none ∧ (va == .none) = c := by
  unfold cIs at e
  split at e
  · (first | obtain ⟨_, rfl⟩ := hb.inv | obtain rfl := hb.inv | cases hb); exact ⟨rfl, isNone_ok e ha⟩
  · (first | exact (no e).elim | cases e)
theorem isnot_none' {v : Value} {Q : Value → Shared → Prop} {E : Value → Shared → Prop} (h : Q (.bool (!(v == .none))) s) : wpAny (model G.prog G.w) A (compareOp .IsNot v .none) Q E s := by
  by_cases hv : v = .none
  · subst hv; exact wpAny_isNot_self (by rfl) h
  · have : (v == Value.none) = false := by
      cases v <;> first | exact absurd rfl hv | rfl
    rw [this] at h
    exact isnot_none_ne hv h
theorem anyStr_strs (x : List Nat) : ∀ {vs : List MV} {ws : List Value} {b : Bool}, anyStr x vs = some b → RVs G N ρ ws vs → ∃ ys : List Str, StrsAre ws ys ∧ b = ys.any (· == tx x)
  | [], ws, b, e, h => by obtain rfl := h.nilv; (first | exact (no e).elim | cases e); exact ⟨[], .nil, rfl⟩
  | v :: vs, ws, b, e, h => by
      have hh := h.uncons; clear h; obtain ⟨_, _, rfl, h, hs⟩ := hh
      cases v <;> try (exact (no e).elim)
      · rename_i y
        obtain ⟨_, rfl⟩ := h.inv
        simp only [anyStr] at e
        cases hq : anyStr x vs with
        | none => rw [hq] at e; (first | exact (no e).elim | cases e)
        | some b' =>
          rw [hq] at e; (first | exact (no e).elim | cases e)
          obtain ⟨ys, h1, h2⟩ := anyStr_strs x hq hs
          exact ⟨tx y :: ys, .cons _ _ h1, by rw [List.any_cons, tx_beq, h2]⟩
      · rename_i y
        obtain ⟨_, rfl, _⟩ := h.inv
        simp only [anyStr] at e
        cases hq : anyStr x vs with
        | none => rw [hq] at e; (first | exact (no e).elim | cases e)
        | some b' =>
          rw [hq] at e; (first | exact (no e).elim | cases e)
          obtain ⟨ys, h1, h2⟩ := anyStr_strs x hq hs
          exact ⟨tx [y] :: ys, .cons _ _ h1, by rw [List.any_cons, tx_beq, h2]⟩
theorem isTupK {t : Addr} {ws : List Value} {n : Nat} (I : Inv G h₀ L m N ρ σ s.heap s.toks) (X : G.K.In h₀) (h : G.K.lookup t = some (tupO ws n)) : IsTup s.heap t ws.toArray := ⟨_, I.F.keep _ _ (X _ _ h), rfl, n, rfl⟩
theorem rv_tup {v : Value} {vs : List MV} (h : RV G N ρ v (.tup vs)) (I : Inv G h₀ L m N ρ σ s.heap s.toks) (X : G.K.In h₀) : ∃ t ws, v = .ref t ∧ IsTup s.heap t ws.toArray ∧ RVs G N ρ ws vs := by
  cases h with
  | tup h1 h2 h3 => exact ⟨_, _, rfl, isTup I h1, h3⟩
  | ktup h1 h2 => exact ⟨_, _, rfl, isTupK I X h1, h2⟩
theorem one_ok {x : List Nat} {c : Nat} (h : one x = some c) : x = [c] := by
  unfold one at h
  split at h
  · (first | exact (no h).elim | cases h); rfl
  · (first | exact (no h).elim | cases h)
theorem cIn_ok {a b : MV} {va vb : Value} {c : Bool} (e : cIn σ a b = some c) (ha : RV G N ρ va a) (hb : RV G N ρ vb b) (I : Inv G h₀ L m N ρ σ s.heap s.toks) (X : G.K.In h₀) :
    (∀ (Q : Value → Shared → Prop) (E : Value → Shared → Prop), Q (.bool c) s → wpAny (model G.prog G.w) A (compareOp .In va vb) Q E s) ∧ (∀ (Q : Value → Shared → Prop) (E : Value → Shared → Prop), Q (.bool (!c)) s → wpAny (model G.prog G.w) A (compareOp .NotIn va vb) Q E s) := by
  cases a <;> try (exact (no e).elim)
  rename_i x
  (first | obtain ⟨_, rfl⟩ := ha.inv | obtain rfl := ha.inv | cases ha)
  cases b <;> try (exact (no e).elim)
  · rename_i y
    (first | obtain ⟨_, rfl⟩ := hb.inv | obtain rfl := hb.inv | cases hb)
    simp only [cIn] at e
    cases ho : one x with
    | none => rw [ho] at e; (first | exact (no e).elim | cases e)
    | some k =>
      rw [ho] at e; (first | exact (no e).elim | cases e)
      have hx := one_ok ho; subst hx
      have key := memN_found k y
      exact ⟨fun Q E q => PyProof.Rows.in_str (by rw [key]; exact q), fun Q E q => PyProof.Rows.notIn_str (by rw [key]; exact q)⟩
  · simp only [cIn] at e
    obtain ⟨t, ws, rfl, ht, hs⟩ := rv_tup hb I X
    obtain ⟨ys, h1, h2⟩ := anyStr_strs x e hs
    subst h2
    exact ⟨fun Q E q => in_tuple_strs ht h1 q, fun Q E q => notin_tuple_strs ht h1 q⟩
  · rename_i i
    simp only [cIn] at e
    unfold cInR at e
    split at e
    · rename_i xs hxs
      obtain ⟨_, hi, rfl⟩ := hb.inv
      obtain ⟨ws, n, h1, h2, h3⟩ := list_at I hi hxs
      obtain ⟨ys, g1, g2⟩ := anyStr_strs x e h2
      subst g2
      have hl := isList I h1
      have he : ∀ t y, y ∈ ws.toArray → SeqAt.EqAt A.in1 s y (.str (tx x) t) (match y with | .str z _ => z == tx x | _ => false) := fun t y hy => by
        obtain ⟨z, t, rfl⟩ := g1.all y (by simpa using hy)
        exact SeqAt.EqAt.str_str z t _ _
      have hany : ws.toArray.any (fun y => match y with | .str z _ => z == tx x | _ => false) = ys.any (· == tx x) := by
        rw [List.any_toArray]
        clear he hl h1 h2 h3 e
        induction g1 with
        | nil => rfl
        | cons y t h ih => rw [List.any_cons, List.any_cons, ih]
      exact ⟨fun Q E q => SeqAt.in_listAt _ hl (he _) (by rw [hany]; exact q), fun Q E q => SeqAt.notIn_listAt _ hl (he _) (by rw [hany]; exact q)⟩
    · (first | exact (no e).elim | cases e)
theorem cEq_ok {a b : MV} {va vb : Value} {c : Bool} (e : cEq σ a b = some c) (ha : RV G N ρ va a) (hb : RV G N ρ vb b) (I : Inv G h₀ L m N ρ σ s.heap s.toks) (X : G.K.In h₀) (hu : A.units + 64 < cLine) :
    ∀ (Q : Value → Shared → Prop) (E : Value → Shared → Prop), Q (.bool c) s → wpAny (model G.prog G.w) A (compareOp .Eq va vb) Q E s := by
  intro Q E q
  cases a <;> try (exact (no e).elim)
  · cases b <;> try (exact (no e).elim)
    (first | obtain ⟨_, rfl⟩ := ha.inv | obtain rfl := ha.inv | cases ha); (first | obtain ⟨_, rfl⟩ := hb.inv | obtain rfl := hb.inv | cases hb); simp only [cEq, Option.some.injEq] at e; subst e
    exact PyProof.Rows.eq_int q
  · cases b <;> try (exact (no e).elim)
    (first | obtain ⟨_, rfl⟩ := ha.inv | obtain rfl := ha.inv | cases ha); (first | obtain ⟨_, rfl⟩ := hb.inv | obtain rfl := hb.inv | cases hb); simp only [cEq, Option.some.injEq] at e; subst e
    exact PyProof.Rows.eq_str (by rw [tx_beq]; exact q)
  · rename_i vs
    by_cases hs : ∃ x, b = .str x
    · obtain ⟨x, rfl⟩ := hs
      (first | obtain ⟨_, rfl⟩ := hb.inv | obtain rfl := hb.inv | cases hb); simp only [cEq, Option.some.injEq] at e; subst e
      obtain ⟨t, ws, rfl, ht, hs⟩ := rv_tup ha I X
      exact EqBoolInt.of_rc (SeqAt.RcAt.tuple_str _ _ ht (by omega)) q
    · cases b <;> first | exact absurd ⟨_, rfl⟩ hs | exact (no e).elim
theorem cNe_ok {a b : MV} {va vb : Value} {c : Bool} (e : cNe σ a b = some c) (ha : RV G N ρ va a) (hb : RV G N ρ vb b) (I : Inv G h₀ L m N ρ σ s.heap s.toks) (X : G.K.In h₀) (hu : A.units + 64 < cLine) :
    ∀ (Q : Value → Shared → Prop) (E : Value → Shared → Prop), Q (.bool c) s → wpAny (model G.prog G.w) A (compareOp .NotEq va vb) Q E s := by
  intro Q E q
  cases a <;> try (exact (no e).elim)
  · cases b <;> try (exact (no e).elim)
    (first | obtain ⟨_, rfl⟩ := ha.inv | obtain rfl := ha.inv | cases ha); (first | obtain ⟨_, rfl⟩ := hb.inv | obtain rfl := hb.inv | cases hb); simp only [cNe, Option.some.injEq] at e; subst e
    exact PyProof.Rows.ne_int q
  · cases b <;> try (exact (no e).elim)
    obtain ⟨_, rfl⟩ := ha.inv; obtain ⟨_, rfl⟩ := hb.inv; simp only [cNe, Option.some.injEq] at e; subst e
    exact PyProof.Rows.ne_str (by rw [bne, tx_beq]; exact q)
theorem cInt_ok {f : Int → Int → Bool} {a b : MV} {va vb : Value} {c : Bool} (e : cInt f a b = some c) (ha : RV G N ρ va a) (hb : RV G N ρ vb b) : ∃ x t y u, va = .int x t ∧ vb = .int y u ∧ c = f x y := by
  cases a <;> try (exact (no e).elim)
  cases b <;> try (exact (no e).elim)
  (first | obtain ⟨_, rfl⟩ := ha.inv | obtain rfl := ha.inv | cases ha); (first | obtain ⟨_, rfl⟩ := hb.inv | obtain rfl := hb.inv | cases hb)
  simp only [cInt, Option.some.injEq] at e
  exact ⟨_, _, _, _, rfl, rfl, e.symm⟩
theorem cmpop_ok {op : CmpOp} {a b : MV} {va vb : Value} {c : Bool} (e : cmpop σ op a b = some c) (ha : RV G N ρ va a) (hb : RV G N ρ vb b) (I : Inv G h₀ L m N ρ σ s.heap s.toks) (X : G.K.In h₀) (hu : A.units + 64 < cLine) :
    ∀ (Q : Value → Shared → Prop) (E : Value → Shared → Prop), Q (.bool c) s → wpAny (model G.prog G.w) A (compareOp op va vb) Q E s := by
  intro Q E q
  cases op <;> try (exact (no e).elim)
  · exact cEq_ok e ha hb I X hu Q E q
  · exact cNe_ok e ha hb I X hu Q E q
  · obtain ⟨x, t, y, u, rfl, rfl, rfl⟩ := cInt_ok e ha hb
    exact PyProof.Rows.lt_int q
  · obtain ⟨x, t, y, u, rfl, rfl, rfl⟩ := cInt_ok e ha hb
    exact PyProof.Rows.gt_int q
  · obtain ⟨rfl, rfl⟩ := cIs_ok e ha hb
    exact is_none q
  · simp only [cmpop] at e
    cases h : cIs a b with
    | none => rw [h] at e; (first | exact (no e).elim | cases e)
    | some d =>
      rw [h] at e; (first | exact (no e).elim | cases e)
      obtain ⟨rfl, rfl⟩ := cIs_ok h ha hb
      exact isnot_none' q
  · exact (cIn_ok e ha hb I X).1 Q E q
  · simp only [cmpop] at e
    cases h : cIn σ a b with
    | none => rw [h] at e; (first | exact (no e).elim | cases e)
    | some d =>
      rw [h] at e; (first | exact (no e).elim | cases e)
      exact (cIn_ok h ha hb I X).2 Q E q
end
end Mine

open PySem PySem.W PyProof.Rows PySem.Calls
namespace Mine
set_option autoImplicit false
set_option backward.match.sparseCases false
set_option linter.unusedVariables false

noncomputable def NR (e : E) : Prop := ∀ x, e ≠ .raw x
section
variable {G : St} {A : Around} {h₀ : Heap} {L : Addr} {m : Str → Option Value} {N : Led} {ρ : Rho} {σ σ' σ'' : List MO} {s : Shared} {env : Env} {ns : Names}

theorem subscripted_er {e : E} (h : NR e) (o i : Value) : subscripted (e.er ns) false o i = operate [o, i] (getItem o i) := by
  cases e <;> first | exact absurd rfl (h _) | rfl
theorem letGo_str (value : Expr) (x : Str) (t : Tok) (r : Value) : letTemporaryGo value (.str x t) r = pure () := by
  cases value <;> rfl
theorem nth_ok {α : Type} {l : List α} {i : Int} {v : α} (h : nth l i = some v) : ∃ n : Nat, i = n ∧ l[n]? = some v ∧ n ≤ 4096 := by
  unfold nth at h
  split at h
  · rename_i n
    cases q : Nat.ble n 4096 with
    | false => rw [q] at h; (first | exact (no h).elim | cases h)
    | true => rw [q] at h; exact ⟨_, rfl, by rw [← at?_eq]; exact h, Nat.le_of_ble_eq_true q⟩
  · (first | exact (no h).elim | cases h)
theorem idx_ok {n k : Nat} (h : n < k) : seqIndex? (n : Int) k = some n := by
  unfold seqIndex?
  simp; omega
theorem lenOk_of {α : Type} {l : List α} {n : Nat} {v : α} (h : l[n]? = some v) : n < l.length := (List.getElem?_eq_some_iff.mp h).1
theorem small_of {h : Heap} {a : Addr} {ws : Array Value} : True := trivial
theorem DR.find {k : List Nat} {es : List (Str × Value)} {kvs : List (List Nat × MV)} (h : DR G N ρ es kvs) : (∀ mv, lkS k kvs = some mv → ∃ v, valueAt es (tx k) = some v ∧ RV G N ρ v mv) ∧ (lkS k kvs = none → valueAt es (tx k) = none) := by
  induction h with
  | nil => exact ⟨fun _ e => (nomatch e), fun _ => rfl⟩
  | cons h hs ih =>
    rename_i k' v mv es kvs
    have key : valueAt ((tx k', v) :: es) (tx k) = if eqL k' k then some v else valueAt es (tx k) := by
      unfold valueAt
      rw [List.find?_cons]
      by_cases q : k' = k
      · subst q; simp [(eqL_iff k' k').mpr rfl]
      · have q1 : eqL k' k = false := by rw [Bool.eq_false_iff]; exact fun h => q ((eqL_iff _ _).mp h)
        have q2 : ¬ (tx k' = tx k) := fun h => q (tx_inj.mp h)
        simp [q1, q2]
    have key2 : lkS k ((k', mv) :: kvs) = if eqL k' k then some mv else lkS k kvs := lkS_cons k _ kvs
    rw [key2]
    show (∀ mv', _ → ∃ v', valueAt ((tx k', v) :: es) (tx k) = some v' ∧ _) ∧ (_ → valueAt ((tx k', v) :: es) (tx k) = none)
    rw [key]
    split
    · exact ⟨fun mv' e => by (first | exact (no e).elim | cases e); exact ⟨v, rfl, h⟩, fun e => by (first | exact (no e).elim | cases e)⟩
    · exact ih
theorem dict_at {i : Nat} {p : Addr × Addr} {kvs : List (List Nat × MV)} (I : Inv G h₀ L m N ρ σ s.heap s.toks) (hp : ρ.l[i]? = some p) (e : at? σ i = some (.dict kvs)) : ∃ o es, (p.1, o) ∈ N ∧ o.IsDictOf (strKind G.prog G.w) es ∧ DR G N ρ es kvs ∧ p = (p.1, p.1) ∧ (p.1 == sysModules) = false := by
  rw [at?_eq] at e
  obtain ⟨p', hp', o⟩ := I.so i _ e
  rw [hp] at hp'; cases hp'
  cases o with
  | dict h1 h2 h0 h3 => exact ⟨_, _, h1, h2, h3, rfl, h0⟩
theorem dictOf_at {a : Addr} {o : Obj} {es : List (Str × Value)} (I : Inv G h₀ L m N ρ σ s.heap s.toks) (h1 : (a, o) ∈ N) (h2 : o.IsDictOf (strKind G.prog G.w) es) : s.heap.DictOf (strKind G.prog G.w) a es := Heap.dictOf_iff.mpr ⟨o, (I.W _ h1).1, h2⟩
theorem subs_ok {value slice : Expr} {a b mv : MV} {va vb : Value} (e : subs σ a b = some mv) (ha : RV G N ρ va a) (hb : RV G N ρ vb b) (I : Inv G h₀ L m N ρ σ s.heap s.toks) (X : G.K.In h₀)
    (hs : subscripted slice false va vb = operate [va, vb] (getItem va vb)) : Wp G A h₀ L m (subscriptTail value slice va vb) σ (VR G mv) N ρ s := by
  cases a <;> try (exact (no e).elim)
  · rename_i l
    cases b <;> try (exact (no e).elim)
    rename_i i
    simp only [subs] at e
    cases h : nth l i with
    | none => rw [h] at e; (first | exact (no e).elim | cases e)
    | some c =>
      rw [h] at e; (first | exact (no e).elim | cases e)
      obtain ⟨n, rfl, hn, hz⟩ := nth_ok h
      (first | obtain ⟨_, rfl⟩ := ha.inv | obtain rfl := ha.inv | cases ha); (first | obtain ⟨_, rfl⟩ := hb.inv | obtain rfl := hb.inv | cases hb)
      have hlt := lenOk_of hn
      refine Wp.sign I fun Q E q => tail_any (typeIs_str s _ _) F.slot_str_getitem.lookup (PyProof.Rows.getItem_str (c := c) (by simp; omega) ?_ q) hs
      rw [tx_len, idx_ok hlt]
      show (tx l).cps[n]? = some c
      simpa using hn
  · rename_i vs
    cases b <;> try (exact (no e).elim)
    rename_i i
    simp only [subs] at e
    obtain ⟨n, rfl, hn, hz⟩ := nth_ok e
    obtain ⟨t, ws, rfl, ht, hr⟩ := rv_tup ha I X
    obtain ⟨v, hv, r⟩ := hr.at hn
    (first | obtain ⟨_, rfl⟩ := hb.inv | obtain rfl := hb.inv | cases hb)
    have hlt := lenOk_of hv
    exact Wp.same' I r fun Q E q => tail_any ht.typeIs slot_tuple_getitem.lookup (PyProof.Rows.getItem_tuple ht (by omega) (by omega) (idx_ok (by simpa using hlt)) (by simpa using hv) q) hs
  · rename_i i
    simp only [subs] at e
    obtain ⟨_, hi, rfl⟩ := ha.inv
    cases hxs : at? σ i with
    | none => rw [hxs] at e; cases b <;> (first | exact (no e).elim | cases e)
    | some mo =>
      rw [hxs] at e
      cases mo <;> try (exact (no e).elim)
      · rename_i xs
        cases b <;> try (exact (no e).elim)
        rename_i j
        simp only [subsR] at e
        obtain ⟨n, rfl, hn, hz⟩ := nth_ok e
        obtain ⟨ws, k, h1, h2, h3⟩ := list_at I hi hxs
        obtain ⟨v, hv, r⟩ := h2.at hn
        (first | obtain ⟨_, rfl⟩ := hb.inv | obtain rfl := hb.inv | cases hb)
        have hl := isList I h1
        exact Wp.same' I r fun Q E q => tail_any hl.typeIs slot_list_getitem.lookup (wpAny_getItem_list hl (by omega) (by omega) (by simpa using hv) q) hs
      · rename_i kvs
        cases b <;> try (exact (no e).elim)
        rename_i x
        simp only [subsR] at e
        obtain ⟨o, es, h1, h2, h3, h4⟩ := dict_at I hi hxs
        obtain ⟨v, hv, r⟩ := (h3.find (k := x)).1 _ e
        (first | obtain ⟨_, rfl⟩ := hb.inv | obtain rfl := hb.inv | cases hb)
        have hd := dictOf_at I h1 h2
        exact Wp.same I r fun Q E q => tail_any hd.typeIs slot_dict_getitem.lookup (wpAny_getItem_of (strKind_is G.prog G.w (tx x) _) hd.mapOf hv q) hs

/-! ### slices -/
theorem part_ok {v : Value} {mv : MV} {o : Option Nat} (e : part mv = some o) (h : RV G N ρ v mv) : IsPart v (oi o) := by
  unfold part at e
  split at e
  · (first | exact (no e).elim | cases e); (first | exact (no h).elim | cases h); exact .none
  · split at e
    · (first | exact (no e).elim | cases e); (first | exact (no h).elim | cases h); exact .int _ _
    · (first | exact (no e).elim | cases e)
  · (first | exact (no e).elim | cases e)
theorem RVs.cut {ws : List Value} {xs : List MV} (h : RVs G N ρ ws xs) (lo hi : Option Nat) : RVs G N ρ (cut ws lo hi) (cut xs lo hi) := by
  have ht : ∀ {ws : List Value} {xs : List MV} (n : Nat), RVs G N ρ ws xs → RVs G N ρ (ws.take n) (xs.take n) := by
    intro ws xs
    induction xs generalizing ws with
    | nil => intro n h; rw [h.nilv]; simp; exact .nil
    | cons x xs ih =>
      intro n h
      obtain ⟨_, _, rfl, h, hs⟩ := h.uncons
      cases n with
      | zero => exact .nil
      | succ n => exact .cons h (ih n hs)
  have hd : ∀ {ws : List Value} {xs : List MV} (n : Nat), RVs G N ρ ws xs → RVs G N ρ (ws.drop n) (xs.drop n) := by
    intro ws xs
    induction xs generalizing ws with
    | nil => intro n h; rw [h.nilv]; simp; exact .nil
    | cons x xs ih =>
      intro n h
      obtain ⟨_, _, rfl, h, hs⟩ := h.uncons
      cases n with
      | zero => exact .cons h hs
      | succ n => exact ih n hs
  unfold Mine.cut
  cases hi with
  | none => exact hd _ h
  | some n => exact hd _ (ht _ h)
theorem kms_cut (l : List Value) (lo hi : Option Nat) : kms_pick l (oi lo) (oi hi) = cut l lo hi := by
  unfold kms_pick cut
  have e1 : kms_lo (oi lo) l.length = min (lo.getD 0) l.length := by cases lo <;> simp [kms_lo, oi]; try omega
  have e2 : kms_hi (oi hi) l.length = (match hi with | some n => min n l.length | none => l.length) := by cases hi <;> simp [kms_hi, oi]; try omega
  rw [e1, e2]
  cases hi with
  | none => simp only []; rw [← List.drop_take]; simp
  | some n =>
    simp only []
    rw [← List.drop_take]
    have : l.take (min n l.length) = l.take n := by rw [List.take_eq_take_iff]; omega
    rw [this]
    by_cases h : lo.getD 0 ≤ l.length
    · rw [Nat.min_eq_left h]
    · rw [Nat.min_eq_right (by omega), List.drop_eq_nil_of_le (by simp; omega), List.drop_eq_nil_of_le (by simp; omega)]
theorem cutE_ok {value slice : Expr} {lo hi : Option (Option Nat)} {a mv ml mh : MV} {va vl vh : Value} (e : cutE σ (part ml) (part mh) a = some (mv, σ')) (ha : RV G N ρ va a) (hl : RV G N ρ vl ml) (hh : RV G N ρ vh mh) (I : Inv G h₀ L m N ρ σ s.heap s.toks) (hB : ∀ p ∈ G.BL, h₀.IsList p.1 p.2.toArray)
    (hs : subscripted slice false va (.ref s.heap.objs.size) = operate [.ref s.heap.objs.size, va] (getItem va (.ref s.heap.objs.size))) :
    Wp G A h₀ L m (subscriptTail value slice va (.ref s.heap.objs.size)) σ' (VR G mv) N ρ { s with heap := s.heap.push { cls := .type "slice", data := .fields #[vl, vh, .none] } } := by
  cases a <;> try (exact (no e).elim)
  · rename_i l
    simp only [cutE] at e
    cases hz : lenOk l.length with
    | false => rw [hz] at e; (first | exact (no e).elim | cases e)
    | true =>
    rw [hz] at e
    cases p1 : part ml with
    | none => rw [p1] at e; (first | exact (no e).elim | cases e)
    | some lo =>
      rw [p1] at e
      cases p2 : part mh with
      | none => rw [p2] at e; (first | exact (no e).elim | cases e)
      | some hi =>
        rw [p2] at e; (first | exact (no e).elim | cases e)
        (first | obtain ⟨_, rfl⟩ := ha.inv | obtain rfl := ha.inv | cases ha)
        have q1 := part_ok p1 hl
        have q2 := part_ok p2 hh
        have hsz : (tx l).length ≤ sizeLine := by rw [tx_len]; exact lenOk_line hz
        intro Q E k
        refine toksUp ?_
        have fin : ∀ h' t' k', Fr h₀ L h' m → News h₀ L h' N → s.toks ≤ k' → Q (.str (Txt.slice (tx l) (oi lo) (oi hi)) t') { s with heap := h', toks := k' } := fun h' t' k' F' W' le => by
          rw [slice_cut]
          exact k _ h' k' N ρ (I.grown le F' W') (Ext.refl _ _ _) (.str _ _)
        cases lo <;> cases hi <;> cases q1 <;> cases q2
        · exact slice_strN_nn I.F I.W fin hs (letGo_str _ _ _) hsz
        · exact slice_strN_ns I.F I.W fin hs (letGo_str _ _ _) hsz
        · exact slice_strN_sn I.F I.W fin hs (letGo_str _ _ _) hsz
        · exact slice_strN_ss I.F I.W fin hs (letGo_str _ _ _) hsz
  · rename_i i
    simp only [cutE] at e
    cases p1 : part ml with
    | none => rw [p1] at e; (first | exact (no e).elim | cases e)
    | some lo =>
      rw [p1] at e
      cases p2 : part mh with
      | none => rw [p2] at e; (first | exact (no e).elim | cases e)
      | some hi =>
        rw [p2] at e
        simp only [Option.bind_some] at e
        obtain ⟨_, hi', rfl⟩ := ha.inv
        cases hxs : at? σ i with
        | none => rw [hxs] at e; (first | exact (no e).elim | cases e)
        | some mo =>
          rw [hxs] at e
          cases mo <;> try (exact (no e).elim)
          rename_i xs
          simp only [cutR] at e
          cases hz : lenOk xs.length with
          | false => rw [hz] at e; (first | exact (no e).elim | cases e)
          | true =>
            rw [hz] at e
            obtain ⟨ws, n, h1, h2, h3⟩ := list_at I hi' hxs
            have q1 := part_ok p1 hl
            have q2 := part_ok p2 hh
            let s₁ : Shared := { s with heap := s.heap.push { cls := .type "slice", data := .fields #[vl, vh, .none] } }
            have I₁ : Inv G h₀ L m N ρ σ s₁.heap s₁.toks := I.grown (Nat.le_refl _) (I.F.push _) (I.W.pushKeep _)
            have hl := isList I h1
            have hl₁ : s₁.heap.IsList _ ws.toArray := hl.push _
            refine newL_ok (s := s₁) e (h2.cut lo hi) I₁ fun hz' Q E q => ?_
            refine tail_any hl₁.typeIs slot_list_getitem.lookup (wpAny_getItem_list_slice (vl := vl) (vu := vh) (vs := .none) hl₁ ⟨_, Heap.get?_push_size _ rfl, rfl, rfl⟩ q1 q2 .none (by simp) ?_ (by
              have := lenOk_line hz
              have := h2.length
              show ws.toArray.size ≤ _
              simp; omega)) hs
            rw [kms_pick_eq]
            show Q _ { s₁ with heap := s₁.heap.push (listOf (kms_pick ws.toArray.toList (oi lo) (oi hi)).toArray 0) }
            have e3 : kms_pick ws.toArray.toList (oi lo) (oi hi) = cut ws lo hi := by rw [← kms_cut]
            rw [e3]
            exact q _ _ s₁.toks (I₁.F.push _) (I₁.W.push I₁.F _) (fun p hp => Heap.lt_size (I₁.W p hp).1)
  · rename_i xs
    simp only [cutE] at e
    cases p1 : part ml with
    | none => rw [p1] at e; (first | exact (no e).elim | cases e)
    | some lo =>
      rw [p1] at e
      cases p2 : part mh with
      | none => rw [p2] at e; (first | exact (no e).elim | cases e)
      | some hi =>
        rw [p2] at e
        simp only [Option.bind_some] at e
        obtain ⟨_, _, hb, h2, rfl⟩ := ha.inv
        rename_i a ws
        cases hz : lenOk xs.length with
        | false => rw [hz] at e; (first | exact (no e).elim | cases e)
        | true =>
          rw [hz] at e
          have q1 := part_ok p1 hl
          have q2 := part_ok p2 hh
          let s₁ : Shared := { s with heap := s.heap.push { cls := .type "slice", data := .fields #[vl, vh, .none] } }
          have I₁ : Inv G h₀ L m N ρ σ s₁.heap s₁.toks := I.grown (Nat.le_refl _) (I.F.push _) (I.W.pushKeep _)
          have hl₀ : s.heap.IsList a ws.toArray := let ⟨o, ho, r⟩ := hB _ hb; ⟨o, I.F.keep _ _ ho, r⟩
          have hl₁ : s₁.heap.IsList _ ws.toArray := hl₀.push _
          refine newL_ok (s := s₁) e (h2.cut lo hi) I₁ fun hz' Q E q => ?_
          refine tail_any hl₁.typeIs slot_list_getitem.lookup (wpAny_getItem_list_slice (vl := vl) (vu := vh) (vs := .none) hl₁ ⟨_, Heap.get?_push_size _ rfl, rfl, rfl⟩ q1 q2 .none (by simp) ?_ (by
            have := lenOk_line hz
            have := h2.length
            show ws.toArray.size ≤ _
            simp; omega)) hs
          rw [kms_pick_eq]
          show Q _ { s₁ with heap := s₁.heap.push (listOf (kms_pick ws.toArray.toList (oi lo) (oi hi)).toArray 0) }
          have e3 : kms_pick ws.toArray.toList (oi lo) (oi hi) = cut ws lo hi := by rw [← kms_cut]
          rw [e3]
          exact q _ _ s₁.toks (I₁.F.push _) (I₁.W.push I₁.F _) (fun p hp => Heap.lt_size (I₁.W p hp).1)
end
end Mine

open PySem PySem.W PyProof.Rows PySem.Calls
namespace Mine
set_option autoImplicit false
set_option backward.match.sparseCases false
set_option linter.unusedVariables false

/-! ## attributes -/
theorem an_inj : ∀ a < 20, ∀ b < 20, an a = an b → a = b := by decide +kernel
theorem an_ne {a b : Nat} (ha : a < 20) (hb : b < 20) (h : a ≠ b) : (an a == an b) = false := by
  rw [beq_eq_false_iff_ne]; exact fun e => h (an_inj a ha b hb e)
/-- what is told of a class of the program -/
structure ClsOk (G : St) (k : Nat) (c : Cl) : Prop where
  dict : hasDictIn G.K (G.CA k) = true
  plain : plainOver G.K (G.CA k) = true
  get : findIn G.K (.ref (G.CA k)) "__getattribute__" = some (some (.builtin "object.__getattribute__")) ∧ findIn G.K (.ref (G.CA k)) "__getattr__" = some none
  set : findIn G.K (.ref (G.CA k)) "__setattr__" = some (some (.builtin "object.__setattr__"))
  none : ∀ a < 20, lkN a c.meths = none → findIn G.K (.ref (G.CA k)) (an a) = some none
  meth : ∀ a < 20, ∀ f, lkN a c.meths = some f → findIn G.K (.ref (G.CA k)) (an a) = some (some (.ref (G.FA f))) ∧ isFn G.K (.ref (G.FA f)) = true
  make : ∀ f, c.ini = some f → makesIn G.K (G.CA k) = true ∧ findIn G.K (.ref (G.CA k)) "__init__" = some (some (.ref (G.FA f))) ∧ typeIn G.K (.ref (G.FA f)) = some (.type "function")
theorem ClsOk.plainGet {G : St} {k : Nat} {c : Cl} (C : ClsOk G k c) (x : Str) : plainGet G.K (G.CA k) x = true := by
  unfold PySem.W.plainGet; rw [C.get.1, C.get.2]; rfl
theorem ClsOk.taker {G : St} {k : Nat} {c : Cl} (C : ClsOk G k c) {a : Nat} (ha : a < 20) (h : lkN a c.meths = Option.none) : takerIn G.K (G.CA k) (an a) = some Option.none := by
  unfold takerIn; rw [C.none a ha h]; rfl

section
variable {G : St} {A : Around} {h₀ : Heap} {L : Addr} {m : Str → Option Value} {N : Led} {ρ : Rho} {σ σ' σ'' : List MO} {s : Shared} {env : Env} {ns : Names}
theorem AR.get {a : Nat} (ha : a < 20) {es : List DictEntry} {ats : List (Nat × MV)} (h : AR G N ρ es ats) : (∀ mv, lkN a ats = some mv → ∃ v, getL (an a) es = some (some v) ∧ RV G N ρ v mv) ∧ (lkN a ats = none → getL (an a) es = some none) := by
  induction h with
  | nil => exact ⟨fun _ e => (nomatch e), fun _ => rfl⟩
  | cons hb h hs ih =>
    rename_i hh b t v mv es ats
    have key2 : lkN a ((b, mv) :: ats) = if Nat.beq b a then some mv else lkN a ats := lkN_cons a _ ats
    have ks : (Value.str (an b) t).isStr (an a) = (an b == an a) := rfl
    rw [key2]
    by_cases q : b = a
    · subst q
      have hq : Nat.beq b b = true := by simp
      have hbb : (an b == an b) = true := by simp
      simp only [hq, if_true]
      exact ⟨fun mv' e => by (first | exact (no e).elim | cases e); exact ⟨v, by unfold getL; rw [List.find?_cons, ks, hbb], h⟩, fun e => by (first | exact (no e).elim | cases e)⟩
    · have hq : Nat.beq b a = false := by rw [Bool.eq_false_iff]; exact fun h => q (Nat.eq_of_beq_eq_true h)
      have hbb := an_ne hb ha q
      have hr : (⟨hh, .str (an b) t, v⟩ : DictEntry).refKey = false := rfl
      have key : getL (an a) (⟨hh, .str (an b) t, v⟩ :: es) = getL (an a) es := by
        unfold getL; rw [List.find?_cons, ks, hbb, List.any_cons, hr, Bool.false_or]
      simp only [hq, Bool.false_eq_true, if_false]
      rw [key]
      exact ih
theorem AR.put {a : Nat} {hsh : Int} {t : Tok} {v : Value} {mv : MV} (ha : a < 20) (hv : RV G N ρ v mv) {es : List DictEntry} {ats : List (Nat × MV)} (h : AR G N ρ es ats) : AR G N ρ (putL (an a) hsh (.str (an a) t) v es) (putN a mv ats) := by
  induction h with
  | nil => exact .cons ha hv .nil
  | cons hb h hs ih =>
    rename_i hh b t' w mw es ats
    have ks : (Value.str (an b) t').isStr (an a) = (an b == an a) := rfl
    have key2 : Mine.putN a mv ((b, mw) :: ats) = if Nat.beq b a then (a, mv) :: ats else (b, mw) :: Mine.putN a mv ats := putN_cons a mv _ ats
    rw [key2]
    show AR G N ρ (if (Value.str (an b) t').isStr (an a) then _ else _) _
    rw [ks]
    by_cases q : b = a
    · subst q
      have hq : Nat.beq b b = true := by simp
      have hbb : (an b == an b) = true := by simp
      simp only [hq, hbb, if_true]
      exact .cons hb hv hs
    · have hq : Nat.beq b a = false := by rw [Bool.eq_false_iff]; exact fun h => q (Nat.eq_of_beq_eq_true h)
      have hbb := an_ne hb ha q
      simp only [hq, hbb, Bool.false_eq_true, if_false]
      exact .cons hb h ih
theorem AR.length {es : List DictEntry} {ats : List (Nat × MV)} (h : AR G N ρ es ats) : es.length = ats.length := by
  induction h with
  | nil => rfl
  | cons _ _ _ ih => rw [List.length_cons, List.length_cons, ih]
theorem inst_at {i k : Nat} {p : Addr × Addr} {ats : List (Nat × MV)} (I : Inv G h₀ L m N ρ σ s.heap s.toks) (hp : ρ.l[i]? = some p) (e : at? σ i = some (.inst k ats)) :
    ∃ es n, (p.1, instObj (G.CA k) p.2) ∈ N ∧ (p.2, dictOf es n) ∈ N ∧ AR G N ρ es ats := by
  rw [at?_eq] at e
  obtain ⟨p', hp', o⟩ := I.so i _ e
  rw [hp] at hp'; cases hp'
  cases o with
  | inst h1 h2 h3 => exact ⟨_, _, h1, h2, h3⟩
theorem handed {v : Value} {mv : MV} (h : RV G N ρ v mv) (hn : notAny mv = true) : handedIn v = true := by
  cases h <;> try rfl
  · rename_i b; cases b <;> first | rfl | decide +kernel
  · cases hn
theorem okAny_ok {v w : MV} (h : okAny v = some w) : w = v ∧ notAny v = true := by
  unfold okAny at h
  cases q : notAny v with
  | false => rw [q] at h; (first | exact (no h).elim | cases h)
  | true => rw [q] at h; (first | exact (no h).elim | cases h); exact ⟨rfl, rfl⟩
theorem lt20 {a : Nat} (h : Nat.ble a 19 = true) : a < 20 := Nat.lt_succ_of_le (Nat.le_of_ble_eq_true h)
/-- what is told of the classes -/
structure ClsAll (G : St) (CT : List Cl) : Prop where
  ok : ∀ k c, at? CT k = some c → ClsOk G k c
  fns : ∀ k c, at? CT k = some c → ∀ a f, lkN a c.meths = some f → specialIn G.K (.ref (G.FA f)) "__get__" = some (some (.builtin "function.__get__")) ∧ takesIn G.K (.ref (G.FA f)) = some false
  names : ∀ a < 20, copiedNames.contains (an a) = false
theorem instAt {a d : Addr} {k : Nat} {es : List DictEntry} {n : Nat} (I : Inv G h₀ L m N ρ σ s.heap s.toks) (h1 : (a, instObj (G.CA k) d) ∈ N) (h2 : (d, dictOf es n) ∈ N) : InstAt s.heap a (instObj (G.CA k) d) (G.CA k) (some (dictOf es n)) := InstAt.of_news I.W h1 h2
theorem notMeth_ok {CT : List Cl} {k a : Nat} (h : notMeth CT k a = true) : ∃ c, at? CT k = some c ∧ lkN a c.meths = none := by
  unfold notMeth at h
  cases hc : at? CT k with
  | none => rw [hc] at h; (first | exact (no h).elim | cases h)
  | some c =>
    rw [hc] at h
    refine ⟨c, rfl, ?_⟩
    have : notMethN a c = true := h
    unfold notMethN at this
    cases hz : lkN a c.meths with
    | none => rfl
    | some f => rw [hz] at this; cases this
theorem attrE_ok {CT : List Cl} (hC : ClsAll G CT) {a : Nat} {mv x : MV} {v : Value} {expr : Bool} (e : attrE CT σ a x = some (mv, σ')) (hx : RV G N ρ v x) (I : Inv G h₀ L m N ρ σ s.heap s.toks) (X : G.K.In h₀) :
    Wp G A h₀ L m (getAttr v (an a) expr) σ' (VR G mv) N ρ s := by
  cases x <;> try (exact (no e).elim)
  rename_i i
  simp only [attrE] at e
  obtain ⟨_, hi, rfl⟩ := hx.inv
  cases hq : at? σ i with
  | none => rw [hq] at e; (first | exact (no e).elim | cases e)
  | some mo =>
    rw [hq] at e
    cases mo <;> try (exact (no e).elim)
    rename_i k ats
    simp only [attrB] at e
    cases ha : Nat.ble a 19 with
    | false => rw [ha] at e; (first | exact (no e).elim | cases e)
    | true =>
      rw [ha] at e
      have ha' := lt20 ha
      obtain ⟨es, n, h1, h2, h3⟩ := inst_at I hi hq
      simp only [cond_true] at e
      cases hl : lkN a ats with
      | some w =>
        rw [hl] at e
        simp only at e
        cases hnm : notMeth CT k a with
        | false => rw [hnm] at e; (first | exact (no e).elim | cases e)
        | true =>
          rw [hnm] at e
          obtain ⟨c, hc, hcn⟩ := notMeth_ok hnm
          have C := hC.ok k c hc
          cases hok : okAny w with
          | none => rw [hok] at e; (first | exact (no e).elim | cases e)
          | some w' =>
            rw [hok] at e; (first | exact (no e).elim | cases e)
            obtain ⟨rfl, hn⟩ := okAny_ok hok
            obtain ⟨u, hu, r⟩ := (h3.get ha').1 _ hl
            exact Wp.same I r fun Q E q => get_own I.F X (instAt I h1 h2) (C.plainGet _) C.dict (C.none a ha' hcn) rfl hu (handed r hn) q
      | none =>
        rw [hl] at e
        simp only at e
        cases hc : at? CT k with
        | none => rw [hc] at e; (first | exact (no e).elim | cases e)
        | some c =>
          rw [hc] at e
          simp only [Option.bind_some, bndK] at e
          cases hf : lkN a c.meths with
          | none => rw [hf] at e; (first | exact (no e).elim | cases e)
          | some f =>
            rw [hf] at e; (first | exact (no e).elim | cases e)
            have C := hC.ok k c hc
            obtain ⟨g1, g2⟩ := C.meth a ha' f hf
            obtain ⟨g3, g4⟩ := hC.fns k c hc a f hf
            have hu := (h3.get ha').2 hl
            intro Q E q
            refine toksUp (kbm_bound I.F X I.W (instAt I h1 h2) (C.plainGet _) C.dict g1 g2 g3 g4 (hC.names a ha') hu fun b h' F' W' hlt le => ?_)
            obtain ⟨J, x⟩ := I.more le (new := [(b, methodObj (.ref (G.FA f)) (.ref _))]) F' W' (by simp) (by simpa using Fresh.lt hlt)
            exact q _ h' _ _ ρ J x (.any _)
theorem AR.full : ∀ {es : List DictEntry} {ats : List (Nat × MV)}, AR G N ρ es ats → ∀ {a : Nat}, a < 20 → (getL (an a) es).isSome = true := fun h a ha => by
  cases hl : lkN a _ with
  | none => rw [(h.get ha).2 hl]; rfl
  | some mv => obtain ⟨v, hv, _⟩ := (h.get ha).1 mv hl; rw [hv]; rfl
theorem putN_len (a : Nat) (v : MV) : ∀ ats : List (Nat × MV), (putN a v ats).length ≤ ats.length + 1
  | [] => Nat.le_refl _
  | p :: r => by
    rw [putN_cons]
    split
    · exact Nat.le_succ _
    · exact Nat.succ_le_succ (putN_len a v r)
theorem putA_ok {CT : List Cl} (hC : ClsAll G CT) {a : Nat} {mv x : MV} {v vx : Value} (e : putA CT a mv σ x = some σ') (hx : RV G N ρ vx x) (hv : RV G N ρ v mv) (I : Inv G h₀ L m N ρ σ s.heap s.toks) (X : G.K.In h₀) :
    Wp G A h₀ L m (setAttr vx (an a) v) σ' UR N ρ s := by
  cases x <;> try (exact (no e).elim)
  rename_i i
  simp only [putA] at e
  obtain ⟨_, hi, rfl⟩ := hx.inv
  cases hq : at? σ i with
  | none => rw [hq] at e; (first | exact (no e).elim | cases e)
  | some mo =>
    rw [hq] at e
    cases mo <;> try (exact (no e).elim)
    rename_i k ats
    simp only [putAt] at e
    cases ha : Nat.ble a 19 with
    | false => rw [ha] at e; (first | exact (no e).elim | cases e)
    | true =>
      cases hz : Nat.ble ats.length 900 with
      | false => rw [ha, hz] at e; (first | exact (no e).elim | cases e)
      | true =>
        cases hnm : notMeth CT k a with
        | false => rw [ha, hz, hnm] at e; (first | exact (no e).elim | cases e)
        | true =>
          rw [ha, hz, hnm] at e; (first | exact (no e).elim | cases e)
          have ha' := lt20 ha
          obtain ⟨c, hc, hcn⟩ := notMeth_ok hnm
          have C := hC.ok k c hc
          obtain ⟨es, n, h1, h2, h3⟩ := inst_at I hi hq
          intro Q E q
          have h3' := h3.put (hsh := PyData.keyHash G.w.params (an a)) (t := s.toks + 1) ha' hv
          have hlen : (putL (an a) (PyData.keyHash G.w.params (an a)) (.str (an a) (s.toks + 1)) v es).length ≤ 1000 := by
            rw [h3'.length]
            have := putN_len a mv ats
            have := Nat.le_of_ble_eq_true hz
            omega
          refine toksUp (set_dict I.F X I.W (instAt I h1 h2) rfl C.set C.plain (C.taker ha' hcn) C.dict (h3.full ha') rfl (upd_Upd I.nd h2) hlen fun h' F' W' le => ?_)
          obtain ⟨J, x⟩ := I.turn le (mo := .inst k (Mine.putN a mv ats)) F' W' hi (.inr rfl) h2 (fun ps e => by have := congrArg Obj.data e; simp at this) (fun x => by
            refine .inst (upd_mem h1 ?_) (upd_self h2) (h3'.mono x)
            intro e'
            have e4 := nodup_row I.nd h1 (show (_, dictOf es n) ∈ N by rw [show _ = _ from e']; exact h2)
            exact absurd (congrArg Obj.cls e4) (by simp))
          exact q () h' _ _ ρ J x trivial
end
end Mine

open PySem PySem.W PyProof.Rows PySem.Calls
namespace Mine
set_option autoImplicit false
set_option backward.match.sparseCases false
set_option linter.unusedVariables false

section
variable {G : St} {A : Around} {h₀ : Heap} {L : Addr} {m : Str → Option Value} {N : Led} {ρ : Rho} {σ σ' σ'' : List MO} {s : Shared} {env : Env} {ns : Names}

/-! ### dicts -/
theorem DR.keys {es : List (Str × Value)} {kvs : List (List Nat × MV)} (h : DR G N ρ es kvs) (k : List Nat) : hasS k kvs = es.any (fun kv => kv.1 = tx k) := by
  induction h with
  | nil => rfl
  | cons h hs ih =>
    rename_i k' _ _ _ _
    show (eqL k' k || hasS k _) = _
    rw [List.any_cons, ih]
    congr 1
    rw [eqL_dec]
    exact decide_eq_decide.mpr tx_inj.symm
theorem DR.length {es : List (Str × Value)} {kvs : List (List Nat × MV)} (h : DR G N ρ es kvs) : es.length = kvs.length := by
  induction h with
  | nil => rfl
  | cons _ _ ih => rw [List.length_cons, List.length_cons, ih]
theorem DR.map {k : List Nat} {v : Value} {mv : MV} (hv : RV G N ρ v mv) {es : List (Str × Value)} {kvs : List (List Nat × MV)} (h : DR G N ρ es kvs) : DR G N ρ (es.map fun kv => if kv.1 = tx k then (kv.1, v) else kv) (mapS k mv kvs) := by
  induction h with
  | nil => exact .nil
  | cons h hs ih =>
    rename_i k' w mw _ _
    show DR G N ρ ((if tx k' = tx k then (tx k', v) else (tx k', w)) :: _) (cond (eqL k' k) (k', mv) (k', mw) :: _)
    by_cases q : k' = k
    · subst q
      rw [if_pos rfl, (eqL_iff k' k').mpr rfl]
      exact .cons hv ih
    · have q1 : eqL k' k = false := by rw [Bool.eq_false_iff]; exact fun h => q ((eqL_iff _ _).mp h)
      rw [if_neg (fun h => q (tx_inj.mp h)), q1]
      exact .cons h ih
theorem DR.append {es es' : List (Str × Value)} {kvs kvs' : List (List Nat × MV)} (h : DR G N ρ es kvs) (y : DR G N ρ es' kvs') : DR G N ρ (es ++ es') (kvs ++ kvs') :=
  DR.rec (motive := fun es kvs _ => DR G N ρ (es ++ es') (kvs ++ kvs')) y (fun h _ ih => .cons h ih) h
theorem DR.put {k : List Nat} {v : Value} {mv : MV} (hv : RV G N ρ v mv) {es : List (Str × Value)} {kvs : List (List Nat × MV)} (h : DR G N ρ es kvs) : DR G N ρ (stored es (tx k) v) (putS k mv kvs) := by
  unfold putS stored
  rw [h.keys k]
  cases q : es.any (fun kv => kv.1 = tx k) with
  | true => rw [if_pos rfl]; exact h.map hv
  | false => rw [if_neg (by simp)]; exact h.append (.cons hv .nil)
theorem listTurn {i : Nat} {p : Addr × Addr} {ws ws' : List Value} {n n' : Nat} {xs' : List MV} {h' : Heap} {tk : Nat} (I : Inv G h₀ L m N ρ σ s.heap s.toks) (le : s.toks ≤ tk) (hp : ρ.l[i]? = some p) (hpp : p = (p.1, p.1)) (h1 : (p.1, listOf ws.toArray n) ∈ N)
    (F' : Fr h₀ L h' m) (W' : News h₀ L h' (upd p.1 (listOf ws'.toArray n') N)) (hx : RVs G N ρ ws' xs') :
    Inv G h₀ L m (upd p.1 (listOf ws'.toArray n') N) ρ (setAt (.list xs') σ i) h' tk ∧ Ext G N ρ (upd p.1 (listOf ws'.toArray n') N) ρ :=
  I.turn le F' W' hp (.inl rfl) h1 (fun ps e => by have := congrArg Obj.cls e; simp at this) fun x => by
    rw [hpp]; exact .list (upd_self h1) (hx.mono x)
theorem RVs.set {v : Value} {mv : MV} (hv : RV G N ρ v mv) {ws : List Value} {xs : List MV} {n : Nat} (h : RVs G N ρ ws xs) : RVs G N ρ (ws.set n v) (setAt mv xs n) := by
  induction xs generalizing ws n with
  | nil => rw [h.nilv]; exact .nil
  | cons x xs ih =>
    obtain ⟨_, _, rfl, h, hs⟩ := h.uncons
    cases n with
    | zero => exact .cons hv hs
    | succ n => exact .cons h (ih hs)
theorem putI_ok {i mv x : MV} {v vi vx : Value} (e : putI mv σ i x = some σ') (hx : RV G N ρ vx x) (hi : RV G N ρ vi i) (hv : RV G N ρ v mv) (I : Inv G h₀ L m N ρ σ s.heap s.toks) :
    Wp G A h₀ L m (setItem vx vi v) σ' UR N ρ s := by
  cases x <;> try (exact (no e).elim)
  rename_i k
  simp only [putI] at e
  obtain ⟨pk, hk, rfl⟩ := hx.inv
  cases hq : at? σ k with
  | none => rw [hq] at e; (first | exact (no e).elim | cases e)
  | some mo =>
    rw [hq] at e
    cases mo <;> try (exact (no e).elim)
    rename_i kvs
    cases i <;> try (exact (no e).elim)
    rename_i x
    simp only [putIt] at e
    cases hz : lenOk kvs.length with
    | false => rw [hz] at e; (first | exact (no e).elim | cases e)
    | true =>
      rw [hz] at e; (first | exact (no e).elim | cases e)
      (first | obtain ⟨_, rfl⟩ := hi.inv | obtain rfl := hi.inv | cases hi)
      obtain ⟨o, es, h1, h2, h3, h4, h5⟩ := dict_at I hk hq
      have hd := dictOf_at I h1 h2
      intro Q E q
      refine toksUp (wpAny_setItem_pairs (strKind_is G.prog G.w (tx x) _) hd (fun h' hd' sb le => ?_) (by rw [h3.length]; exact lenOk_line hz))
      obtain ⟨o', ho', hd''⟩ := Heap.dictOf_iff.mp hd'
      obtain ⟨J, xx⟩ := I.turn le (mo := .dict (putS x mv kvs)) (I.F.update I.W h1 sb) (I.W.update h1 sb ho') hk (.inl rfl) h1 (fun ps e => by
          obtain ⟨_, _, _, e2, _⟩ := h2; rw [e] at e2; cases e2) (fun xx => by
        rw [h4]
        exact .dict (upd_self h1) hd'' h5 ((h3.put hv).mono xx))
      exact q () h' _ _ ρ J xx trivial

/-! ### methods of lists, dicts, texts -/
theorem popL_ok : ∀ {xs : List MV} {ws : List Value} {p : List MV × MV}, popL xs = some p → RVs G N ρ ws xs → ∃ us y, kl_last ws = some (us, y) ∧ RVs G N ρ us p.1 ∧ RV G N ρ y p.2
  | [], ws, p, e, h => by (first | exact (no e).elim | cases e)
  | x :: r, ws, p, e, h => by
    cases h with
    | cons h hs =>
      rename_i w ws
      simp only [popL] at e
      cases hq : popL r with
      | none =>
        rw [hq] at e; (first | exact (no e).elim | cases e)
        have hr : r = [] := by
          cases r with
          | nil => rfl
          | cons y r' =>
            simp only [popL] at hq
            split at hq <;> cases hq
        subst hr
        cases hs
        exact ⟨[], w, rfl, .nil, h⟩
      | some q =>
        rw [hq] at e; (first | exact (no e).elim | cases e)
        obtain ⟨us, y, g1, g2, g3⟩ := popL_ok hq hs
        exact ⟨w :: us, y, by simp only [kl_last, g1], .cons h g2, g3⟩
noncomputable def lname (a : Nat) : String := if Nat.beq a 10 then "list.append" else "list.pop"
theorem apL_ok {a : Nat} {as : List MV} {v mv : MV} {va : Value} {vs : List Value} (ha : a = 10 ∨ a = 11) (e : apLv σ a as v = some (mv, σ')) (hv : RV G N ρ va v) (hs : RVs G N ρ vs as) (I : Inv G h₀ L m N ρ σ s.heap s.toks) :
    Wp G A h₀ L m (call (.builtin (lname a)) (va :: vs)) σ' (VR G mv) N ρ s := by
  cases v <;> try (exact (no e).elim)
  rename_i i
  simp only [apLv] at e
  obtain ⟨_, hi, rfl⟩ := hv.inv
  cases hq : at? σ i with
  | none => rw [hq] at e; (first | exact (no e).elim | cases e)
  | some mo =>
    rw [hq] at e
    cases mo <;> try (exact (no e).elim)
    rename_i xs
    simp only [apL] at e
    obtain ⟨ws, n, h1, h2, h3⟩ := list_at I hi hq
    rcases ha with rfl | rfl
    · simp only [mList] at e
      · · obtain ⟨vb, b, rfl, hb, e⟩ := a1_ok e hs
          cases hz : lenOk xs.length with
          | false => rw [hz] at e; (first | exact (no e).elim | cases e)
          | true =>
            rw [hz] at e; (first | exact (no e).elim | cases e)
            intro Q E q
            refine toksUp (append_K (its := ws.toArray) (n := n) I.F I.W (upd_Upd I.nd h1) (fun h' F' W' le => ?_) (by have := lenOk_line hz; have := h2.length; simp; omega))
            have hw : ws.toArray.push vb = (ws ++ [vb]).toArray := by simp
            rw [hw] at W'
            obtain ⟨J, x⟩ := listTurn I le hi h3 h1 F' W' (h2.append (.cons hb .nil))
            exact q _ h' _ _ ρ J x .none
    · simp only [mList] at e
      cases as with
      | cons b bs => (first | exact (no e).elim | cases e)
      | nil =>
        obtain rfl := hs.nilv
        simp only at e
        cases hz : lenOk xs.length with
        | false => rw [hz] at e; (first | exact (no e).elim | cases e)
        | true =>
          rw [hz] at e
          cases hp : popL xs with
          | none => rw [hp] at e; (first | exact (no e).elim | cases e)
          | some p =>
            rw [hp] at e; (first | exact (no e).elim | cases e)
            obtain ⟨us, y, g1, g2, g3⟩ := popL_ok hp h2
            intro Q E q
            refine toksUp (kl_pop (its := ws.toArray) (n := n) (p := us) (y := y) I.F I.W (by simpa using g1) (upd_Upd I.nd h1) (by have := lenOk_line hz; have := h2.length; simp; omega) fun h' F' W' le => ?_)
            obtain ⟨J, x⟩ := listTurn I le hi h3 h1 F' W' g2
            exact q _ h' _ _ ρ J x (g3.mono x)
theorem joinS_ok : ∀ {xs : List MV} {ws : List Value} {l : List Nat}, joinS xs = some l → RVs G N ρ ws xs → ∃ ys, StrsAre ws ys ∧ Str.join ⟨#[]⟩ ys = tx l ∧ (ys.map (·.length)).sum = l.length
  | [], ws, l, e, h => by obtain rfl := h.nilv; (first | exact (no e).elim | cases e); exact ⟨[], .nil, by rw [PyProof.Rows.join_nil]; rfl, rfl⟩
  | x :: r, ws, l, e, h => by
      have hh := h.uncons; clear h; obtain ⟨_, _, rfl, h, hs⟩ := hh
      have tell : (∃ y, x.wk = .str y ∧ joinS (x :: r) = (joinS r).bind fun z => some (y ++ z)) := by
        cases x <;> try (exact (no e).elim)
        · exact ⟨_, rfl, rfl⟩
        · exact ⟨_, rfl, rfl⟩
      obtain ⟨y, hy, hj⟩ := tell
      rw [hj] at e
      cases hq : joinS r with
      | none => rw [hq] at e; (first | exact (no e).elim | cases e)
      | some l' =>
        rw [hq] at e; (first | exact (no e).elim | cases e)
        have h := h.wk
        rw [hy] at h
        obtain ⟨_, rfl⟩ := h.inv
        obtain ⟨ys, g1, g2, g3⟩ := joinS_ok hq hs
        exact ⟨tx y :: ys, .cons _ _ g1, by rw [join_nil_cons, g2, tx_append], by rw [List.map_cons, List.sum_cons, g3, tx_len, List.length_append]⟩
theorem apS_ok {as : List MV} {v mv : MV} {va : Value} {vs : List Value} (e : apSv σ 13 as v = some (mv, σ')) (hv : RV G N ρ va v) (hs : RVs G N ρ vs as) (I : Inv G h₀ L m N ρ σ s.heap s.toks) :
    Wp G A h₀ L m (call (.builtin "str.join") (va :: vs)) σ' (VR G mv) N ρ s := by
  cases v <;> try (exact (no e).elim)
  rename_i x
  simp only [apSv, mStr] at e
  (first | obtain ⟨_, rfl⟩ := hv.inv | obtain rfl := hv.inv | cases hv)
  cases x with
  | cons _ _ => (first | exact (no e).elim | cases e)
  | nil =>
    · · obtain ⟨vb, b, rfl, hb, e⟩ := a1_ok e hs
        cases b <;> try (exact (no e).elim)
        rename_i i
        simp only [join1] at e
        obtain ⟨_, hi, rfl⟩ := hb.inv
        cases hq : at? σ i with
        | none => rw [hq] at e; (first | exact (no e).elim | cases e)
        | some mo =>
          rw [hq] at e
          cases mo <;> try (exact (no e).elim)
          rename_i xs
          simp only [joinR] at e
          cases hz : lenOk xs.length with
          | false => rw [hz] at e; (first | exact (no e).elim | cases e)
          | true =>
            rw [hz] at e
            cases hj : joinS xs with
            | none => rw [hj] at e; (first | exact (no e).elim | cases e)
            | some l =>
              rw [hj] at e
              simp only [Option.bind_some, cond_true] at e
              cases hz2 : lenOk l.length with
              | false => rw [hz2] at e; (first | exact (no e).elim | cases e)
              | true =>
                rw [hz2] at e; (first | exact (no e).elim | cases e)
                obtain ⟨ws, n, h1, h2, h3⟩ := list_at I hi hq
                obtain ⟨ys, g1, g2, g3⟩ := joinS_ok hj h2
                intro Q E q
                refine toksUp (PyProof.Rows.join_list (isList I h1) (by simpa using g1) ?_ fun t' k le => ?_)
                · have := lenOk_le hz2
                  rw [g3]
                  show l.length + ys.length * 0 ≤ _
                  omega
                · have e1 : Txt.join ⟨#[]⟩ ys = tx l := (beq_iff_eq.mp (join_plain_closes _ ys)).trans g2
                  show Q (.str (Txt.join ⟨#[]⟩ ys) t') _
                  rw [e1]
                  exact q _ s.heap k N ρ (I.grown le I.F I.W) (Ext.refl _ _ _) (.str _ _)
theorem without_filter (c : Nat) : ∀ l : List Nat, without c l = l.filter (· != c)
  | [] => rfl
  | d :: r => by
    show cond (Nat.beq d c) (without c r) (d :: without c r) = _
    rw [without_filter c r, List.filter_cons]
    cases h : Nat.beq d c with
    | true => have := Nat.eq_of_beq_eq_true h; subst this; simp
    | false => have := Nat.ne_of_beq_eq_false h; simp [this]
theorem cntN_cnt (c : Nat) : ∀ l : List Nat, ((cntN c l : Nat) : Int) = PyProof.Rows.cnt c l
  | [] => rfl
  | d :: r => by
    rw [PyProof.Rows.cnt_cons, ← cntN_cnt c r]
    show ((cond (Nat.beq d c) (cntN c r + 1) (cntN c r) : Nat) : Int) = _
    cases h : Nat.beq d c with
    | true => have := Nat.eq_of_beq_eq_true h; subst this; simp; omega
    | false => have := Nat.ne_of_beq_eq_false h; simp [this]
noncomputable def sname : Nat → String
  | 13 => "str.join"
  | 14 => "str.replace"
  | 15 => "str.index"
  | _ => "str.count"
theorem apStr_ok {a : Nat} {as : List MV} {v mv : MV} {va : Value} {vs : List Value} (ha : a = 13 ∨ a = 14 ∨ a = 15 ∨ a = 16) (e : apSv σ a as v = some (mv, σ')) (hv : RV G N ρ va v) (hs : RVs G N ρ vs as) (I : Inv G h₀ L m N ρ σ s.heap s.toks) :
    Wp G A h₀ L m (call (.builtin (sname a)) (va :: vs)) σ' (VR G mv) N ρ s := by
  rcases ha with rfl | rfl | rfl | rfl
  · exact apS_ok e hv hs I
  · cases v <;> try (exact (no e).elim)
    rename_i x
    obtain ⟨_, rfl⟩ := hv.inv
    simp only [apSv, mStr] at e
    · obtain ⟨vp, p, vq, q, rfl, hp, hq, e⟩ := a2_ok e hs
      unfold sRepl at e
      split at e
      · rename_i c
        cases hz : lenOk x.length with
        | false => rw [hz] at e; (first | exact (no e).elim | cases e)
        | true =>
          rw [hz] at e; (first | exact (no e).elim | cases e)
          obtain ⟨u, rfl, hu⟩ := hp.inv
          obtain ⟨w, rfl, hw⟩ := hq.inv
          have hb := I.bk
          have := lenOk_le hz
          intro Q E k
          refine toksUp (SC.replace (Nat.ne_of_gt (hb.c u hu).1) (Nat.ne_of_gt (hb.l w hw).1) (fun q => hb.d u hu (q ▸ hw)) (by rfl) (by rw [tx_len]; simp [Str.length]; omega) fun t' tk le => ?_)
          have key : Txt.replace (tx x) (tx [c]) (tx []) = tx (without c x) := by
            apply Str.ext'
            apply Array.toList_inj.mp
            rw [show (tx [c]) = (⟨#[c]⟩ : Str) from rfl, show (tx []) = (⟨#[]⟩ : Str) from rfl, replace_strikes]
            simp [without_filter]
          rw [key]
          exact k _ s.heap tk N ρ (I.grown le I.F I.W) (Ext.refl _ _ _) (.str _ _)
      · (first | exact (no e).elim | cases e)
  · cases v <;> exact (no e).elim
  · cases v <;> try (exact (no e).elim)
    rename_i x
    obtain ⟨_, rfl⟩ := hv.inv
    simp only [apSv, mStr] at e
    · obtain ⟨vp, p, rfl, hp, e⟩ := a1_ok e hs
      have hp := hp.wk
      unfold sCount at e
      split at e
      · rename_i y hy
        rw [hy] at hp
        obtain ⟨u, rfl⟩ := hp.inv
        cases ho : one y with
        | none => rw [ho] at e; (first | exact (no e).elim | cases e)
        | some c =>
          rw [ho] at e; (first | exact (no e).elim | cases e)
          have := one_ok ho; subst this
          have key : Txt.count (tx x) (tx [c]) = ((cntN c x : Nat) : Int) := by
            rw [cntN_cnt]
            exact count_is (tx x) c
          exact Wp.same I (.int _ s.toks) fun Q E q => SC.count (by rw [key]; exact q)
      · (first | exact (no e).elim | cases e)
end
end Mine

open PySem PySem.W PyProof.Rows PySem.Calls
namespace Mine
set_option autoImplicit false
set_option backward.match.sparseCases false
set_option linter.unusedVariables false
set_option maxRecDepth 20000

section
variable {G : St} {A : Around} {h₀ : Heap} {L : Addr} {m : Str → Option Value} {N : Led} {ρ : Rho} {σ σ' σ'' : List MO} {s : Shared} {env : Env} {ns : Names}

/-! ### the method that is meant -/
/-- what the choice of a method hands on: the callee and what stands ahead of the arguments -/
noncomputable def SelR (G : St) (sel : Sel) (a : Nat) (v : Value) (f : Value × List Value) : Prop := match sel with
  | .list => f = (.builtin (lname a), [v]) ∧ (a = 10 ∨ a = 11)
  | .str => f = (.builtin (sname a), [v]) ∧ (a = 13 ∨ a = 14 ∨ a = 15 ∨ a = 16)
  | .own k => f = (.ref (G.FA k), [v]) ∧ isFn G.K (.ref (G.FA k)) = true
theorem an10 : an 10 = "append" := rfl
theorem an11 : an 11 = "pop" := rfl
theorem an13 : an 13 = "join" := rfl
theorem mSel_ok {CT : List Cl} (hC : ClsAll G CT) {a : Nat} {sel : Sel} {x : MV} {v : Value} {pl : Sem Bool} (e : mSel CT σ a x = some sel) (hx : RV G N ρ v x) (I : Inv G h₀ L m N ρ σ s.heap s.toks) (X : G.K.In h₀) :
    ∃ f, SelR G sel a v f ∧ ∀ (Q : Value × List Value → Shared → Prop) (E : Value → Shared → Prop), Q f s → wpAny (model G.prog G.w) A (getMethod v (an a) pl) Q E s := by
  cases x <;> try (exact (no e).elim)
  · -- str
    simp only [mSel] at e
    cases hb : (Nat.ble 13 a && Nat.ble a 16) with
    | false => rw [hb] at e; (first | exact (no e).elim | cases e)
    | true =>
      rw [hb] at e; (first | exact (no e).elim | cases e)
      obtain ⟨hb1, hb2⟩ := Bool.and_eq_true_iff.mp hb
      have hb1 := Nat.le_of_ble_eq_true hb1
      have hb2 := Nat.le_of_ble_eq_true hb2
      obtain ⟨_, rfl⟩ := hx.inv
      have ha : a = 13 ∨ a = 14 ∨ a = 15 ∨ a = 16 := by omega
      refine ⟨_, ⟨rfl, ha⟩, ?_⟩
      rcases ha with rfl | rfl | rfl | rfl
      · exact fun Q E q => by rw [an13]; exact GM.join q
      · exact fun Q E q => by rw [show an 14 = "replace" from rfl]; exact GM.replace q
      · exact fun Q E q => by rw [show an 15 = "index" from rfl]; exact GM.index q
      · exact fun Q E q => by rw [show an 16 = "count" from rfl]; exact GM.count q
  · rename_i i
    simp only [mSel] at e
    obtain ⟨_, hi, rfl⟩ := hx.inv
    cases hq : at? σ i with
    | none => rw [hq] at e; (first | exact (no e).elim | cases e)
    | some mo =>
      rw [hq] at e
      cases mo <;> try (exact (no e).elim)
      · simp only [selR] at e
        obtain ⟨ws, n, h1, h2, h3⟩ := list_at I hi hq
        cases hb : (Nat.beq a 10 || Nat.beq a 11) with
        | false => rw [hb] at e; (first | exact (no e).elim | cases e)
        | true =>
          rw [hb] at e; (first | exact (no e).elim | cases e)
          rcases Bool.or_eq_true_iff.mp hb with hb | hb <;> (have := Nat.eq_of_beq_eq_true hb; subst this)
          · exact ⟨_, ⟨rfl, .inl rfl⟩, fun Q E q => by rw [an10]; exact kl_method I.W h1 slot_list_append PySem.F.type_list_append q⟩
          · exact ⟨_, ⟨rfl, .inr rfl⟩, fun Q E q => by rw [an11]; exact kl_method I.W h1 PySem.F.slot_list_pop PySem.F.type_list_pop q⟩
      · rename_i k ats
        simp only [selR] at e
        obtain ⟨es, n, h1, h2, h3⟩ := inst_at I hi hq
        cases ha : Nat.ble a 19 with
        | false => rw [ha] at e; (first | exact (no e).elim | cases e)
        | true =>
          rw [ha] at e
          have ha' := lt20 ha
          simp only [cond_true] at e
          cases hl : lkN a ats with
          | some _ => rw [hl] at e; (first | exact (no e).elim | cases e)
          | none =>
            rw [hl] at e
            simp only [selI] at e
            cases hc : at? CT k with
            | none => rw [hc] at e; (first | exact (no e).elim | cases e)
            | some c =>
              rw [hc] at e
              simp only [Option.bind_some, selC] at e
              cases hf : lkN a c.meths with
              | none => rw [hf] at e; (first | exact (no e).elim | cases e)
              | some f =>
                rw [hf] at e; (first | exact (no e).elim | cases e)
                have C := hC.ok k c hc
                obtain ⟨g1, g2⟩ := C.meth a ha' f hf
                exact ⟨_, ⟨rfl, g2⟩, fun Q E q => method_inst I.F X (instAt I h1 h2) (C.plainGet _) g1 g2 ((h3.get ha').2 hl) q⟩

/-! ### built-in functions -/
theorem bLen_ok {x mv : MV} {v : Value} (e : bLen σ x = some (mv, σ')) (hx : RV G N ρ v x) (I : Inv G h₀ L m N ρ σ s.heap s.toks) : Wp G A h₀ L m (call (.builtin "len") [v]) σ' (VR G mv) N ρ s := by
  cases x <;> try (exact (no e).elim)
  · rename_i l
    simp only [bLen] at e
    cases hz : lenOk l.length with
    | false => rw [hz] at e; (first | exact (no e).elim | cases e)
    | true =>
      rw [hz] at e; (first | exact (no e).elim | cases e)
      have := lenOk_le hz
      (first | obtain ⟨_, rfl⟩ := hx.inv | obtain rfl := hx.inv | cases hx)
      refine Wp.same I (.int _ (s.toks + 1)) fun Q E q => PyProof.Rows.len_str (by rw [tx_len]; omega) (by rw [tx_len]; exact q)
  · rename_i i
    simp only [bLen] at e
    obtain ⟨_, hi, rfl⟩ := hx.inv
    cases hq : at? σ i with
    | none => rw [hq] at e; (first | exact (no e).elim | cases e)
    | some mo =>
      rw [hq] at e
      cases mo <;> try (exact (no e).elim)
      rename_i xs
      simp only [lenR] at e
      cases hz : lenOk xs.length with
      | false => rw [hz] at e; (first | exact (no e).elim | cases e)
      | true =>
        rw [hz] at e; (first | exact (no e).elim | cases e)
        obtain ⟨ws, n, h1, h2, h3⟩ := list_at I hi hq
        have := lenOk_le hz
        have hl := h2.length
        exact Wp.same I (.int _ (s.toks + 1)) fun Q E q => PyProof.Rows.len_list (isList I h1) (by simp; omega) (by simpa [hl] using q)
theorem bRange_ok {x mv : MV} {v : Value} (e : bRange σ x = some (mv, σ')) (hx : RV G N ρ v x) (I : Inv G h₀ L m N ρ σ s.heap s.toks) : Wp G A h₀ L m (call (.type "range") [v]) σ' (VR G mv) N ρ s := by
  unfold bRange at e
  split at e
  · rename_i n
    cases hz : lenOk n with
    | false => rw [hz] at e; (first | exact (no e).elim | cases e)
    | true =>
      rw [hz] at e; (first | exact (no e).elim | cases e)
      (first | obtain ⟨_, rfl⟩ := hx.inv | obtain rfl := hx.inv | cases hx)
      intro Q E q
      refine toksUp (call_range_1 (fun le => ?_))
      rename_i tu
      obtain ⟨J, x⟩ := I.one (o := { cls := .type "range", data := .fields #[.int 0 s.toks, .int (Int.ofNat n) tu, .int 1 (s.toks + 1)] })
      refine q _ _ _ _ ρ (J.grown le J.F J.W) x (.rng (t := s.toks) (u := tu) (v := s.toks + 1) ?_ (I.off (I.fresh (Nat.le_refl _))).1)
      simp [rngO]
  · (first | exact (no e).elim | cases e)
theorem bIsi_ok {x y mv : MV} {v w : Value} (e : bIsi σ x y = some (mv, σ')) (hx : RV G N ρ v x) (hy : RV G N ρ w y) (I : Inv G h₀ L m N ρ σ s.heap s.toks) : Wp G A h₀ L m (call (.builtin "isinstance") [v, w]) σ' (VR G mv) N ρ s := by
  unfold bIsi at e
  split at e
  · (first | exact (no e).elim | cases e); (first | obtain ⟨_, rfl⟩ := hx.inv | obtain rfl := hx.inv | cases hx); (first | obtain ⟨_, rfl⟩ := hy.inv | obtain rfl := hy.inv | cases hy)
    exact Wp.same I (.bool false) fun Q E q => IsiPair.int_tuple q
  · (first | exact (no e).elim | cases e); (first | obtain ⟨_, rfl⟩ := hx.inv | obtain rfl := hx.inv | cases hx); (first | obtain ⟨_, rfl⟩ := hy.inv | obtain rfl := hy.inv | cases hy)
    exact Wp.same I (.bool false) fun Q E q => IsiPair.str_tuple q
  · (first | exact (no e).elim | cases e)
theorem bList_ok {x mv : MV} {v : Value} (e : bList σ x = some (mv, σ')) (hx : RV G N ρ v x) (I : Inv G h₀ L m N ρ σ s.heap s.toks) (X : G.K.In h₀) (hh : A.handled = none) : Wp G A h₀ L m (call (.type "list") [v]) σ' (VR G mv) N ρ s := by
  unfold bList at e
  split at e
  · (first | exact (no e).elim | cases e)
    obtain ⟨t, ws, rfl, ht, hr⟩ := rv_tup hx I X
    cases hr
    intro Q E q
    refine toksUp (list_copyKT I.F I.W ht (fun D c h' F' W' hlt le => ?_) (by simp))
    have fr : Fresh N D := .lt hlt
    have J := I.alloc le (new := [(D, listOf #[] c)]) (p := (D, D)) (mo := .list []) F' W' (by simp) (by simpa using fr) fr fr (fun ρ' x => .list (ws := []) (List.mem_cons_self ..) .nil)
    refine q _ h' _ _ _ J.1 J.2 ?_
    have : (ρ.add (D, D)).l[σ.length]? = some (D, D) := by rw [← I.len]; simp [Rho.app]
    exact .ref (p := (D, D)) this
  · (first | exact (no e).elim | cases e)
theorem bAbs_ok {x mv : MV} {v : Value} (e : bAbs σ x = some (mv, σ')) (hx : RV G N ρ v x) (I : Inv G h₀ L m N ρ σ s.heap s.toks) : Wp G A h₀ L m (call (.builtin "abs") [v]) σ' (VR G mv) N ρ s := by
  cases x <;> try (exact (no e).elim)
  · rename_i M r
    simp only [bAbs] at e
    (first | exact (no e).elim | cases e)
    obtain ⟨i, t, hxm, rfl⟩ := hx.inv
    intro Q E q
    refine toksUp (call_abs_int fun u tk le => ?_)
    have : (if i < 0 then -i else i) = (i.natAbs : Int) := by split <;> omega
    rw [this]
    exact q _ s.heap tk N ρ (I.grown le I.F I.W) (Ext.refl _ _ _) (.md hxm)
theorem bInt_ok {x mv : MV} {v : Value} (e : bInt σ x = some (mv, σ')) (hx : RV G N ρ v x) (I : Inv G h₀ L m N ρ σ s.heap s.toks) : Wp G A h₀ L m (call (.type "int") [v]) σ' (VR G mv) N ρ s := by
  unfold bInt at e
  split at e
  · (first | exact (no e).elim | cases e)
    obtain ⟨_, _, hxm, rfl⟩ := hx.inv
    exact Wp.same' I (.ab hxm) fun Q E q => call_int_int q
  · (first | exact (no e).elim | cases e)
theorem biCall_ok {b : Bi} {as : List MV} {mv : MV} {vs : List Value} (e : biCall b as σ = some (mv, σ')) (hs : RVs G N ρ vs as) (I : Inv G h₀ L m N ρ σ s.heap s.toks) (X : G.K.In h₀) (hh : A.handled = none) :
    Wp G A h₀ L m (call (biV b) vs) σ' (VR G mv) N ρ s := by
  cases b <;> try (exact (no e).elim)
  · obtain ⟨v, x, rfl, h, e'⟩ := a1_ok e hs; exact bLen_ok e' h I
  · obtain ⟨v, x, w, y, rfl, h, h', e'⟩ := a2_ok e hs; exact bIsi_ok e' h h' I
  · obtain ⟨v, x, rfl, h, e'⟩ := a1_ok e hs; exact bRange_ok e' h I
  · obtain ⟨v, x, rfl, h, e'⟩ := a1_ok e hs; exact bList_ok e' h I X hh
  · obtain ⟨v, x, rfl, h, e'⟩ := a1_ok e hs; exact bAbs_ok e' h I
  · obtain ⟨v, x, rfl, h, e'⟩ := a1_ok e hs; exact bInt_ok e' h I
end
end Mine

open PySem PySem.W PyProof.Rows PySem.Calls
namespace Mine
set_option autoImplicit false
set_option backward.match.sparseCases false
set_option linter.unusedVariables false

/-! ## where a piece of code stands -/
/-- what is told of a global name -/
noncomputable def GlbOk (G : St) (x : Str) (mv : MV) : Prop :=
  (∃ v, nsIn G.K mainGlobals x = some (some v) ∧ ∀ N ρ, RV G N ρ v mv) ∨ (nsIn G.K mainGlobals x = some none ∧ x ≠ "__name__" ∧ ∃ v, bootBuiltins x = some v ∧ ∀ N ρ, RV G N ρ v mv)
structure EnvOk (G : St) (A : Around) (env : Env) (h₀ : Heap) (L : Addr) (n : Nat) : Prop where
  kind : env.scope.kind = .function
  gl : env.globals = mainGlobals
  bi : env.builtins = builtinsNs
  fr : env.frame = some L
  X : G.K.In h₀
  T : ∃ p loose mean mg mb, Top p loose mean mg mb h₀
  hd : A.handled = none
  B : ∃ A₀ base outer fe, Below A₀ base outer h₀ ∧ A.frames = some (fe :: outer) ∧ fe.frame = some L ∧ fe.scope.kind = .function
  tabs : ∀ t ∈ G.TB, CodeHd h₀ t.c t.P
  bls : ∀ p ∈ G.BL, h₀.IsList p.1 p.2.toArray
  dep : A.depth + n < recursionLimit
  uni : A.units + 8 * n + 100 < cLine
theorem EnvOk.down {G : St} {A : Around} {env : Env} {h₀ : Heap} {L : Addr} {n : Nat} (H : EnvOk G A env h₀ L (n + 1)) : EnvOk G A env h₀ L n :=
  { H with dep := Nat.lt_of_le_of_lt (by omega) H.dep, uni := Nat.lt_of_le_of_lt (by omega) H.uni }
theorem EnvOk.le {G : St} {A : Around} {env : Env} {h₀ : Heap} {L : Addr} {n k : Nat} (H : EnvOk G A env h₀ L n) (h : k ≤ n) : EnvOk G A env h₀ L k :=
  { H with dep := Nat.lt_of_le_of_lt (by omega) H.dep, uni := Nat.lt_of_le_of_lt (by omega) H.uni }
theorem EnvOk.lim {G : St} {A : Around} {env : Env} {h₀ : Heap} {L : Addr} {n : Nat} (H : EnvOk G A env h₀ L n) : h₀.NoLimit := let ⟨_, _, _, _, _, T⟩ := H.T; T.nolimit
theorem EnvOk.u64 {G : St} {A : Around} {env : Env} {h₀ : Heap} {L : Addr} {n : Nat} (H : EnvOk G A env h₀ L n) : A.units + 64 < cLine := Nat.lt_of_le_of_lt (by omega) H.uni

/-- a lambda with a constant for its body may be made here -/
noncomputable def LmbOk (G : St) (env : Env) (k : Nat) : Prop :=
  ∃ cn sc L a t cl, env = envX cn sc L a (.ref t.c) cl ∧ t ∈ G.TB ∧ t.pos = (cdAt k).pos ∧ t.qual = (cdAt k).qual ∧ env.qual ++ "<lambda>" = (cdAt k).qual ∧ (cdAt k).name = "<lambda>" ∧ defaultsOf (cdAt k).params env = ([], []) ∧ closureFor (cdAt k).scope env = pure []
/-- what is told of the place where a code within a code is made -/
noncomputable def NestOk (G : St) (env : Env) (ns : Names) (i k : Nat) (cs : List Nat) : Prop := (noLam (lamOf k) = false → LmbOk G env k) ∧ (noLam (lamOf k) = true →
  ∃ cn sc L a t cl, env = envX cn sc L a (.ref t.c) cl ∧ t ∈ G.TB ∧ t.pos = (cdAt k).pos ∧ t.qual = (cdAt k).qual ∧ qualnameIn env (cdAt k).name (cdAt k).name = (cdAt k).qual ∧ ns.at i = (cdAt k).name ∧
    (cdAt k).params.defaults = [] ∧ (cdAt k).params.kw_defaults = [] ∧ annTrees (cdAt k).params none env = [] ∧ frees (cdAt k).scope.names = cs.map ns.at ∧ cs.length ≤ 1 ∧
    ∀ f : Str → Addr, (∀ j ∈ cs, env.cells.lookup (ns.at j) = some (f (ns.at j))) → closureFor (cdAt k).scope env = pure (cs.map fun j => (ns.at j, f (ns.at j))))
inductive SlotOk (G : St) (L : Addr) (env : Env) (m : Str → Option Value) (N : Led) (ρ : Rho) (ns : Names) (i : Nat) : Slot → Prop
  | locS {mv : MV} {v : Value} : env.locals = L → env.kindOf (ns.at i) = some .local → m (ns.at i) = some v → RV G N ρ v mv → SlotOk G L env m N ρ ns i (.loc (some mv))
  | locN : env.locals = L → env.kindOf (ns.at i) = some .local → SlotOk G L env m N ρ ns i (.loc none)
  | glb {mv : MV} : env.kindOf (ns.at i) = some .globalImplicit → GlbOk G (ns.at i) mv → SlotOk G L env m N ρ ns i (.glb mv)
  | cel {k : Nat} {c : Addr} : env.kindOf (ns.at i) = some .cell → env.cells.lookup (ns.at i) = some c → ρ.l[k]? = some (c, c) → SlotOk G L env m N ρ ns i (.cel k)
  | fre {k : Nat} {c : Addr} : env.kindOf (ns.at i) = some .cell ∨ (env.kindOf (ns.at i) = some .free ∧ (ns.at i == ("__classdict__" : Str)) = false) → env.cells.lookup (ns.at i) = some c → ρ.l[k]? = some (c, c) → SlotOk G L env m N ρ ns i (.fre k)
  | comS {mv : MV} {v : Value} {o : Obj} {m' : Str → Option Value} : env.kindOf (ns.at i) = some .local → (env.locals, o) ∈ N → env.locals ∉ mts G ρ → NsOb o m' → m' (ns.at i) = some v → RV G N ρ v mv → SlotOk G L env m N ρ ns i (.loc (some mv))
  | comN : env.locals ≠ L → env.kindOf (ns.at i) = some .local → SlotOk G L env m N ρ ns i (.loc none)
  | nst {j k : Nat} {cs : List Nat} : NestOk G env ns j k cs → SlotOk G L env m N ρ ns i (.nst j k cs)
  | nid {w : Nat} : ns = nsAt w → SlotOk G L env m N ρ ns i (.nid w)
  | unk : SlotOk G L env m N ρ ns i .unk
structure Slots (G : St) (L : Addr) (env : Env) (ns : Names) (m : Str → Option Value) (N : Led) (ρ : Rho) (sl : List Slot) : Prop where
  len : sl.length = ns.length
  nd : (ns.map (·.1)).Nodup
  dbg : ∀ i < ns.length, (ns.at i == ("__debug__" : Str)) = false
  ok : ∀ i x, sl[i]? = some x → SlotOk G L env m N ρ ns i x

section
variable {G : St} {A : Around} {h₀ : Heap} {L : Addr} {m : Str → Option Value} {N N' : Led} {ρ ρ' : Rho} {σ σ' σ'' : List MO} {s : Shared} {env : Env} {ns : Names} {sl sl' : List Slot} {n : Nat}

theorem SlotOk.mono (x : Ext G N ρ N' ρ') {i : Nat} {a : Slot} : SlotOk G L env m N ρ ns i a → SlotOk G L env m N' ρ' ns i a
  | .locS h0 h1 h2 h3 => .locS h0 h1 h2 (h3.mono x)
  | .locN h0 h1 => .locN h0 h1
  | .glb h1 h2 => .glb h1 h2
  | .cel h1 h2 h3 => .cel h1 h2 (x.get h3)
  | .fre h1 h2 h3 => .fre h1 h2 (x.get h3)
  | .comS h1 h2 h3 h4 h5 h6 => .comS h1 (x.sub _ h2 h3) (x.off h2 h3) h4 h5 (h6.mono x)
  | .comN h1 h2 => .comN h1 h2
  | .nst h => .nst h
  | .nid h => .nid h
  | .unk => .unk
theorem Slots.mono (S : Slots G L env ns m N ρ sl) (x : Ext G N ρ N' ρ') : Slots G L env ns m N' ρ' sl := ⟨S.len, S.nd, S.dbg, fun i a e => (S.ok i a e).mono x⟩
theorem at_inj (nd : (ns.map (·.1)).Nodup) {i j : Nat} (hi : i < ns.length) (hj : j < ns.length) (h : ns.at i = ns.at j) : i = j := by
  unfold Names.at at h
  rw [List.getD_eq_getElem?_getD, List.getD_eq_getElem?_getD, List.getElem?_eq_getElem (by simpa using hi), List.getElem?_eq_getElem (by simpa using hj)] at h
  exact (List.getElem_inj nd).mp h

/-! ### names -/
theorem glb_ok {x : Str} {mv : MV} {pos : Pos} (g : GlbOk G x mv) (hk : env.kindOf x = some .globalImplicit) (hd : (x == ("__debug__" : Str)) = false) (H : EnvOk G A env h₀ L n) (I : Inv G h₀ L m N ρ σ s.heap s.toks) :
    Wp G A h₀ L m (eval (.Name x pos) env) σ (VR G mv) N ρ s := by
  obtain ⟨p, loose, mean, mg, mb, T⟩ := H.T
  have tg : s.heap.Ns env.globals mg := by rw [H.gl]; exact T.g.keeps I.F.keep
  have tb : s.heap.Ns env.builtins mb := by rw [H.bi]; exact T.b.keeps I.F.keep
  rcases g with ⟨v, h1, h2⟩ | ⟨h1, h3, v, h2, h4⟩
  · exact Wp.same' I (h2 N ρ) fun Q E q => Name_function_global H.kind hk (loadGlobal_global tg (mg_of H.X T.g h1) q) hd
  · exact Wp.same' I (h4 N ρ) fun Q E q => Name_function_global H.kind hk (loadGlobal_builtin tg (mg_none_of H.X T.g h1) tb ((T.builtins x h3).trans h2) q) hd
theorem cell_at {i : Nat} {c : Addr} {mv : Option MV} (I : Inv G h₀ L m N ρ σ s.heap s.toks) (hp : ρ.l[i]? = some (c, c)) (e : at? σ i = some (.cell mv)) : ∃ o v, (c, o) ∈ N ∧ o.data = .cell v ∧ CR G N ρ v mv := by
  rw [at?_eq] at e
  obtain ⟨p', hp', o⟩ := I.so i _ e
  rw [hp] at hp'; cases hp'
  cases o with
  | cell h1 h2 h3 => exact ⟨_, _, h1, h2, h3⟩
theorem load_ok {i : Nat} {mv : MV} {pos : Pos} (e : getS σ (at? sl i) = some (mv, σ')) (H : EnvOk G A env h₀ L n) (S : Slots G L env ns m N ρ sl) (I : Inv G h₀ L m N ρ σ s.heap s.toks) :
    Wp G A h₀ L m (loadName env (ns.at i)) σ' (VR G mv) N ρ s := by
  rw [at?_eq] at e
  cases hx : sl[i]? with
  | none => rw [hx] at e; (first | exact (no e).elim | cases e)
  | some x =>
    rw [hx] at e
    have hi : i < ns.length := S.len ▸ lenOk_of hx
    have ok := S.ok i x hx
    cases ok with
    | locS h0 h1 h2 h3 => (first | exact (no e).elim | cases e); exact Wp.same' I h3 fun Q E q => wpAny_loadName_local H.kind h1 (by rw [h0]; exact I.F.ns) h2 q
    | locN h0 h1 => (first | exact (no e).elim | cases e)
    | glb h1 h2 =>
      (first | exact (no e).elim | cases e)
      obtain ⟨p, loose, mean, mg, mb, T⟩ := H.T
      have tg : s.heap.Ns env.globals mg := by rw [H.gl]; exact T.g.keeps I.F.keep
      have tb : s.heap.Ns env.builtins mb := by rw [H.bi]; exact T.b.keeps I.F.keep
      rcases h2 with ⟨v, g1, g2⟩ | ⟨g1, g3, v, g2, g4⟩
      · exact Wp.same' I (g2 N ρ) fun Q E q => ks_loadName_global H.kind h1 (loadGlobal_global tg (mg_of H.X T.g g1) q)
      · exact Wp.same' I (g4 N ρ) fun Q E q => ks_loadName_global H.kind h1 (loadGlobal_builtin tg (mg_none_of H.X T.g g1) tb ((T.builtins _ g3).trans g2) q)
    | cel h1 h2 h3 =>
      simp only [getS] at e
      unfold cellR at e
      split at e
      · rename_i v hv
        (first | exact (no e).elim | cases e)
        obtain ⟨o, w, g1, g2, g3⟩ := cell_at I h3 hv
        cases g3 with | some g3 =>
        exact Wp.same' I g3 fun Q E q => wpAny_loadName_cell H.kind h1 h2 ⟨o, (I.W _ g1).1, g2⟩ q
      · (first | exact (no e).elim | cases e)
    | fre h1 h2 h3 =>
      simp only [getS] at e
      unfold cellR at e
      split at e
      · rename_i v hv
        (first | exact (no e).elim | cases e)
        obtain ⟨o, w, g1, g2, g3⟩ := cell_at I h3 hv
        cases g3 with | some g3 =>
        rcases h1 with h1 | ⟨h1, hn⟩
        · exact Wp.same' I g3 fun Q E q => wpAny_loadName_cell H.kind h1 h2 ⟨o, (I.W _ g1).1, g2⟩ q
        · exact Wp.same' I g3 fun Q E q => wpAny_loadName_free H.kind h1 h2 ⟨o, (I.W _ g1).1, g2⟩ q hn
      · (first | exact (no e).elim | cases e)
    | comS h1 h2 h3 h4 h5 h6 => (first | exact (no e).elim | cases e); exact Wp.same' I h6 fun Q E q => wpAny_loadName_local H.kind h1 (h4.ns (I.W _ h2).1) h5 q
    | comN h1 h2 => (first | exact (no e).elim | cases e)
    | nst h => (first | exact (no e).elim | cases e)
    | nid h => (first | exact (no e).elim | cases e)
    | unk => (first | exact (no e).elim | cases e)
theorem name_ok {i : Nat} {mv : MV} {pos : Pos} (e : getS σ (at? sl i) = some (mv, σ')) (H : EnvOk G A env h₀ L n) (S : Slots G L env ns m N ρ sl) (I : Inv G h₀ L m N ρ σ s.heap s.toks) :
    Wp G A h₀ L m (eval (.Name (ns.at i) pos) env) σ' (VR G mv) N ρ s := by
  have hi : i < ns.length := by
    rw [at?_eq] at e
    cases hx : sl[i]? with
    | none => rw [hx] at e; (first | exact (no e).elim | cases e)
    | some x => exact S.len ▸ lenOk_of hx
  intro Q E k
  exact wpAny_Name (load_ok (pos := pos) e H S I Q E k) (S.dbg i hi)
end

/-! ### the judgement for statements -/
section
variable (G : St)
noncomputable def WpS {α : Type} (A : Around) (h₀ : Heap) (L : Addr) (env : Env) (ns : Names) (m : Str → Option Value) (t : Sem α) (sl' : List Slot) (σ' : List MO) (R : α → Led → Rho → Prop) (N : Led) (ρ : Rho) (s : Shared) : Prop :=
  ∀ (Q : α → Shared → Prop) (E : Value → Shared → Prop),
    (∀ a h' tk N' ρ' m', Inv G h₀ L m' N' ρ' σ' h' tk → Ext G N ρ N' ρ' → Slots G L env ns m' N' ρ' sl' → R a N' ρ' → Q a { s with heap := h', toks := tk }) → wpAny (model G.prog G.w) A t Q E s
end
section
variable {G : St} {A : Around} {h₀ : Heap} {L : Addr} {m : Str → Option Value} {N N' : Led} {ρ ρ' : Rho} {σ σ' σ'' : List MO} {s : Shared} {env : Env} {ns : Names} {sl sl' sl'' : List Slot} {n : Nat}
theorem WpS.of {α : Type} {t : Sem α} {R : α → Led → Rho → Prop} (h : Wp G A h₀ L m t σ' R N ρ s) (S : Slots G L env ns m N ρ sl) : WpS G A h₀ L env ns m t sl σ' R N ρ s :=
  fun Q E k => h Q E fun a h' tk N' ρ' I x r => k a h' tk N' ρ' m I x (S.mono x) r
theorem WpS.pure {α : Type} {R : α → Led → Rho → Prop} {a : α} (I : Inv G h₀ L m N ρ σ s.heap s.toks) (S : Slots G L env ns m N ρ sl) (r : R a N ρ) : WpS G A h₀ L env ns m (pure a) sl σ R N ρ s := WpS.of (Wp.pure I r) S
theorem WpS.bind {α β : Type} {t : Sem α} {f : α → Sem β} {R : α → Led → Rho → Prop} {R' : β → Led → Rho → Prop} (ht : Wp G A h₀ L m t σ R N ρ s)
    (hf : ∀ a h₁ tk N₁ ρ₁, Inv G h₀ L m N₁ ρ₁ σ h₁ tk → Ext G N ρ N₁ ρ₁ → R a N₁ ρ₁ → WpS G A h₀ L env ns m (f a) sl' σ' R' N₁ ρ₁ { s with heap := h₁, toks := tk }) : WpS G A h₀ L env ns m (t >>= f) sl' σ' R' N ρ s :=
  fun Q E k => wpAny_bind (ht _ _ fun a h₁ tk N₁ ρ₁ I₁ x₁ r₁ => hf a h₁ tk N₁ ρ₁ I₁ x₁ r₁ Q E fun b h₂ tk₂ N₂ ρ₂ m₂ I₂ x₂ S₂ r₂ => k b h₂ tk₂ N₂ ρ₂ m₂ I₂ (x₁.trans x₂) S₂ r₂)
theorem WpS.bindS {α β : Type} {t : Sem α} {f : α → Sem β} {R : α → Led → Rho → Prop} {R' : β → Led → Rho → Prop} (ht : WpS G A h₀ L env ns m t sl σ R N ρ s)
    (hf : ∀ a h₁ tk N₁ ρ₁ m₁, Inv G h₀ L m₁ N₁ ρ₁ σ h₁ tk → Ext G N ρ N₁ ρ₁ → Slots G L env ns m₁ N₁ ρ₁ sl → R a N₁ ρ₁ → WpS G A h₀ L env ns m₁ (f a) sl' σ' R' N₁ ρ₁ { s with heap := h₁, toks := tk }) : WpS G A h₀ L env ns m (t >>= f) sl' σ' R' N ρ s :=
  fun Q E k => wpAny_bind (ht _ _ fun a h₁ tk N₁ ρ₁ m₁ I₁ x₁ S₁ r₁ => hf a h₁ tk N₁ ρ₁ m₁ I₁ x₁ S₁ r₁ Q E fun b h₂ tk₂ N₂ ρ₂ m₂ I₂ x₂ S₂ r₂ => k b h₂ tk₂ N₂ ρ₂ m₂ I₂ (x₁.trans x₂) S₂ r₂)
theorem WpS.mono {α : Type} {t : Sem α} {R R' : α → Led → Rho → Prop} (ht : WpS G A h₀ L env ns m t sl' σ' R N ρ s) (h : ∀ a N' ρ', Ext G N ρ N' ρ' → R a N' ρ' → R' a N' ρ') : WpS G A h₀ L env ns m t sl' σ' R' N ρ s :=
  fun Q E k => ht Q E fun a h' tk N' ρ' m' I x S r => k a h' tk N' ρ' m' I x S (h a N' ρ' x r)
theorem WpS.stand {α : Type} {p : Pos} {t : Sem α} {R : α → Led → Rho → Prop} (ht : WpS G A h₀ L env ns m t sl' σ' R N ρ s) : WpS G A h₀ L env ns m (standAt p >>= fun _ => t) sl' σ' R N ρ s :=
  fun Q E k => wpAny_bind (wpAny_standAt (ht Q E k))
theorem WpS.hold {α : Type} {vs : List Value} {t : Sem α} {R : α → Led → Rho → Prop} (ht : WpS G A h₀ L env ns m t sl' σ' R N ρ s) : WpS G A h₀ L env ns m (holding vs t) sl' σ' R N ρ s :=
  fun Q E k => wpAny_holding (ht Q E k)
theorem WpS.rel {α : Type} {vs ws : List Value} {t : Sem α} {R : α → Led → Rho → Prop} (ht : WpS G A h₀ L env ns m t sl' σ' R N ρ s) : WpS G A h₀ L env ns m (release vs ws >>= fun _ => t) sl' σ' R N ρ s :=
  fun Q E k => wpAny_bind (wpAny_release (ht Q E k))

/-! ### stores into names -/
theorem set_at {i j : Nat} {x y : Slot} (h : (setAt y sl i)[j]? = some x) : (j = i ∧ x = y) ∨ (j ≠ i ∧ sl[j]? = some x) := by
  rw [setAt_eq] at h
  by_cases e : j = i
  · subst e
    have hlt : j < sl.length := by have := lenOk_of h; simpa using this
    rw [List.getElem?_set_self hlt] at h
    exact .inl ⟨rfl, (Option.some.inj h).symm⟩
  · rw [List.getElem?_set_ne (Ne.symm e)] at h
    exact .inr ⟨e, h⟩
theorem notMod (H : EnvOk G A env h₀ L n) : (env.scope.kind == .class || (env.scope.kind == .module && env.locals != env.globals)) = false := by rw [H.kind]; rfl
theorem Slots.setLoc {i : Nat} {u : Value} {mv : MV} (I : Inv G h₀ L m N ρ σ s.heap s.toks) (S : Slots G L env ns m N ρ sl) (hL : env.locals = L) (hi : i < ns.length) (hk : env.kindOf (ns.at i) = some .local) (hu : RV G N ρ u mv) :
    Slots G L env ns (fun y => if y = ns.at i then some u else m y) N ρ (setAt (.loc (some mv)) sl i) := by
  refine ⟨by rw [setAt_eq]; simp [S.len], S.nd, S.dbg, fun j x e => ?_⟩
  rcases set_at e with ⟨rfl, rfl⟩ | ⟨hne, e⟩
  · exact .locS hL hk (if_pos rfl) hu
  · have hj : j < ns.length := S.len ▸ lenOk_of e
    cases S.ok j x e with
    | locS h0 h1 h2 h3 => exact .locS h0 h1 ((if_neg fun q => hne (at_inj S.nd hj hi q)).trans h2) h3
    | locN h0 h1 => exact .locN h0 h1
    | glb h1 h2 => exact .glb h1 h2
    | cel h1 h2 h3 => exact .cel h1 h2 h3
    | fre h1 h2 h3 => exact .fre h1 h2 h3
    | comS h1 h2 h3 h4 h5 h6 => exact absurd hL (I.W _ h2).2.1
    | comN h1 h2 => exact absurd hL h1
    | nst h => exact .nst h
    | nid h => exact .nid h
    | unk => exact .unk
theorem storeLoc_ok {i : Nat} {u : Value} {mv : MV} (H : EnvOk G A env h₀ L n) (S : Slots G L env ns m N ρ sl) (hL : env.locals = L) (hi : i < ns.length) (hk : env.kindOf (ns.at i) = some .local) (hu : RV G N ρ u mv) (I : Inv G h₀ L m N ρ σ s.heap s.toks) :
    WpS G A h₀ L env ns m (storeName env (ns.at i) u) (setAt (.loc (some mv)) sl i) σ UR N ρ s := by
  subst hL
  intro Q E k
  refine wpAny_storeName_local hk I.F.ns (fun h' hn hs => ?_) (notMod H)
  exact k () h' _ N ρ _ ⟨I.F.set hn hs, I.W.set hs, I.nd, I.len, I.ap, I.so, I.tb, I.bk.mono (Nat.le_succ _), I.fz⟩ (Ext.refl _ _ _) (S.setLoc I rfl hi hk hu) trivial
theorem store_ok {i : Nat} {u : Value} {mv : MV} (e : putSl i mv sl σ (at? sl i) = some (sl', σ')) (H : EnvOk G A env h₀ L n) (S : Slots G L env ns m N ρ sl) (hu : RV G N ρ u mv) (I : Inv G h₀ L m N ρ σ s.heap s.toks) (hfun : env.locals = L) :
    WpS G A h₀ L env ns m (storeName env (ns.at i) u) sl' σ' UR N ρ s := by
  rw [at?_eq] at e
  cases hx : sl[i]? with
  | none => rw [hx] at e; (first | exact (no e).elim | cases e)
  | some x =>
    rw [hx] at e
    have hi : i < ns.length := S.len ▸ lenOk_of hx
    cases S.ok i x hx with
    | locS h0 h1 h2 h3 => (first | exact (no e).elim | cases e); exact storeLoc_ok H S h0 hi h1 hu I
    | locN h0 h1 => (first | exact (no e).elim | cases e); exact storeLoc_ok H S h0 hi h1 hu I
    | glb h1 h2 => (first | exact (no e).elim | cases e)
    | fre h1 h2 h3 => (first | exact (no e).elim | cases e)
    | nst h => (first | exact (no e).elim | cases e)
    | nid h => (first | exact (no e).elim | cases e)
    | unk => (first | exact (no e).elim | cases e)
    | cel h1 h2 h3 =>
      rename_i k c
      simp only [putSl] at e
      cases hq : at? σ k with
      | none => rw [hq] at e; (first | exact (no e).elim | cases e)
      | some mo =>
        rw [hq] at e
        cases mo <;> try (exact (no e).elim)
        simp only [putCell] at e
        (first | exact (no e).elim | cases e)
        obtain ⟨o, w, g1, g2, g3⟩ := cell_at I h3 hq
        intro Q E q
        refine toksUp (wpAny_storeName_cell H.kind h1 h2 ⟨o, (I.W _ g1).1, g2⟩ fun h' hc sb le => ?_)
        obtain ⟨o', ho', hd'⟩ := hc
        obtain ⟨J, xx⟩ := I.turn le (mo := .cell (some mv)) (I.F.update I.W g1 sb) (I.W.update g1 sb ho') h3 (.inl rfl) g1 (fun ps e => by rw [e] at g2; cases g2) (fun xx => .cell (upd_self g1) hd' (.some (hu.mono xx)))
        exact q () h' _ _ ρ m J xx (S.mono xx) trivial
    | comS h1 h2 h3 h4 h5 h6 => exact absurd hfun (I.W _ h2).2.1
    | comN h1 h2 => exact absurd hfun h1
end
end Mine

open PySem PySem.W PyProof.Rows PySem.Calls
namespace Mine
set_option autoImplicit false
set_option backward.match.sparseCases false
set_option linter.unusedVariables false

section
variable {G : St} {A : Around} {h₀ : Heap} {L : Addr} {m : Str → Option Value} {N N' : Led} {ρ ρ' : Rho} {σ σ' σ'' : List MO} {s : Shared} {env : Env} {ns : Names} {sl sl' : List Slot} {n : Nat}

/-! ## iterators -/
noncomputable def itObj : It → Obj → Prop := fun _ _ => True
theorem pyIter_ok {v : MV} {u : Value} {it : It} (e : It.of σ v = some it) (hu : RV G N ρ u v) (I : Inv G h₀ L m N ρ σ s.heap s.toks) :
    ∀ (Q : Value → Shared → Prop) (E : Value → Shared → Prop), (∀ o, Inv G h₀ L m ((s.heap.objs.size, o) :: N) ρ σ (s.heap.push o) s.toks → Ext G N ρ ((s.heap.objs.size, o) :: N) ρ → IR ρ o it → Q (.ref s.heap.objs.size) { s with heap := s.heap.push o }) →
      wpAny (model G.prog G.w) A (pyIter u) Q E s := by
  cases v <;> try (simp [It.of] at e; done)
  · rename_i l
    simp only [It.of] at e; (first | exact (no e).elim | cases e)
    (first | obtain ⟨_, rfl⟩ := hu.inv | obtain rfl := hu.inv | cases hu)
    rename_i t
    intro Q E q
    have hd : l.drop 0 = l := rfl
    cases ha : (tx l).cps.all (· < 128) with
    | true =>
      refine wpAny_pyIter_ascii ha ?_
      obtain ⟨J, x⟩ := I.one (o := { cls := .type "str_ascii_iterator", data := .fields #[.str (tx l) t, .int 0 0] })
      exact q _ J x (.str (k := 0) (t := t) (by show _ = Value.type (if (tx l).cps.all (· < 128) = true then _ else _); rw [ha]; rfl) rfl)
    | false =>
      refine wpAny_pyIter_wide ha ?_
      obtain ⟨J, x⟩ := I.one (o := { cls := .type "str_iterator", data := .fields #[.str (tx l) t, .int 0 0] })
      exact q _ J x (.str (k := 0) (t := t) (by show _ = Value.type (if (tx l).cps.all (· < 128) = true then _ else _); rw [ha]; rfl) rfl)
  · rename_i i
    simp only [It.of] at e
    obtain ⟨_, hi, rfl⟩ := hu.inv
    cases hq : at? σ i with
    | none => rw [hq] at e; (first | exact (no e).elim | cases e)
    | some mo =>
      rw [hq] at e
      cases mo <;> try (exact (no e).elim)
      simp only [itR] at e; (first | exact (no e).elim | cases e)
      obtain ⟨ws, k, h1, h2, h3⟩ := list_at I hi hq
      intro Q E q
      refine wpAny_pyIter_list (isList I h1) ?_
      obtain ⟨J, x⟩ := I.one (o := { cls := .type "list_iterator", data := .fields #[.ref _, .int 0 0] })
      exact q _ J x (.lst hi rfl rfl)
  · rename_i a k
    simp only [It.of] at e
    cases hz : lenOk (a + k) with
    | false => rw [hz] at e; (first | exact (no e).elim | cases e)
    | true =>
      rw [hz] at e; (first | exact (no e).elim | cases e)
      have := lenOk_le hz
      obtain ⟨_, _, _, _, h1, h2, rfl⟩ := hu.inv
      rename_i r t u v
      intro Q E q
      have hsz : Builtin.Range.rangeSize (a : Int) ((a : Int) + k) 1 = (k : Int) := by rw [rangeSize_nat]; omega
      have hsm : Builtin.Range.small (a : Int) ((a : Int) + k) 1 = true := small_one (by omega) (by omega) (by omega) (by omega)
      refine wpAny_pyIter_range (I.W _ h1).1 hsm ?_
      rw [hsz]
      obtain ⟨J, x⟩ := I.one (o := { cls := .type "range_iterator", data := .fields #[rawInt (a : Int), rawInt (k : Int), rawInt 1] })
      exact q _ J x (.rng a k)
/-- a few rows turned that no value stands on -/
theorem turnX {a : Addr} {o o' : Obj} {h' : Heap} {tk : Nat} (I : Inv G h₀ L m N ρ σ s.heap s.toks) (le : s.toks ≤ tk) (hm : (a, o) ∈ N) (hn : a ∉ mts G ρ) (hb : ¬ Good o) (sb : Heap.SameBut a s.heap h') (ho' : h'.get? a = some o') :
    Inv G h₀ L m (upd a o' N) ρ σ h' tk ∧ ExtX G [a] N ρ (upd a o' N) ρ ∧ (∀ b ob, (b, ob) ∈ N → ∃ ox, (b, ox) ∈ upd a o' N) ∧ (a, o') ∈ upd a o' N := by
  have up : ∀ q ∈ N, q.1 ≠ a → q ∈ upd a o' N := fun q hq hne => upd_mem hq hne
  have x : ExtX G [a] N ρ (upd a o' N) ρ := ⟨fun q hq _ he => up q hq (by simpa using he), ⟨[], by simp⟩, Rho.le.refl _, fun b hb => .inl hb, fun b ob hb he => ⟨ob, up _ hb (by simpa using he)⟩⟩
  have bad : ∀ b ∈ [a], ∀ ob, (b, ob) ∈ N → ¬ Good ob := fun b hb' ob hob => by
    rw [List.mem_singleton.mp hb'] at hob
    rwa [nodup_row I.nd hob hm]
  have tr := x.tr bad
  refine ⟨⟨I.F.update I.W hm sb, I.W.update hm sb ho', by rw [upd_map]; exact I.nd, I.len, I.ap, fun i mo e => ?_, fun t ht => ?_, I.bk.mono le, fun b hb => let ⟨⟨u, v, h⟩, hn2⟩ := I.fz b hb; ⟨⟨u, v, up _ h fun e => hn (by rw [← e]; exact fz_mts G hb)⟩, hn2⟩⟩, x, fun b ob hob => ?_, upd_self hm⟩
  · obtain ⟨p, e', oo⟩ := I.so i mo e
    refine ⟨p, e', oo.keepT tr fun q hq hqp => up q hq fun he => hn ?_⟩
    rw [← he]
    have := mem_mts G e'
    rcases hqp with h | h <;> rw [h]
    · exact this.1
    · exact this.2
  · exact (I.tb t ht).keepT tr fun q hq hqt => up q hq fun he => hn (by rw [← he, hqt]; exact tab_mts G ht)
  · by_cases e : b = a
    · subst e; exact ⟨o', upd_self hm⟩
    · exact ⟨ob, up _ hob e⟩
/-- a row dropped that no value stands on -/
theorem dropX {a : Addr} {o : Obj} {h' : Heap} {tk : Nat} (I : Inv G h₀ L m N ρ σ s.heap s.toks) (le : s.toks ≤ tk) (hm : (a, o) ∈ N) (hn : a ∉ mts G ρ) (hb : ¬ Good o) (xb : Heap.ExtBut a s.heap h') :
    Inv G h₀ L m (N.filter fun q => q.1 != a) ρ σ h' tk ∧ ExtX G [a] N ρ (N.filter fun q => q.1 != a) ρ := by
  have up : ∀ q ∈ N, q.1 ≠ a → q ∈ (N.filter fun q => q.1 != a) := fun q hq hne => List.mem_filter.mpr ⟨hq, by simpa using hne⟩
  have x : ExtX G [a] N ρ (N.filter fun q => q.1 != a) ρ := ⟨fun q hq _ he => up q hq (by simpa using he), ⟨[], by simp⟩, Rho.le.refl _, fun b hb => .inl hb, fun b ob hb he => ⟨ob, up _ hb (by simpa using he)⟩⟩
  have bad : ∀ b ∈ [a], ∀ ob, (b, ob) ∈ N → ¬ Good ob := fun b hb' ob hob => by
    rw [List.mem_singleton.mp hb'] at hob
    rwa [nodup_row I.nd hob hm]
  have tr := x.tr bad
  have aL : a ≠ L := (I.W _ hm).2.1
  have a0 : h₀.get? a = none := (I.W _ hm).2.2
  refine ⟨⟨⟨I.F.ns.extBut xb aL.symm, fun b ob e => xb b ob (fun q => by rw [q, a0] at e; (first | exact (no e).elim | cases e)) (I.F.keep b ob e), I.F.above⟩, fun q hq => ?_, ?_, I.len, I.ap, fun i mo e => ?_, fun t ht => ?_, I.bk.mono le, fun b hb => let ⟨⟨u, v, h⟩, hn2⟩ := I.fz b hb; ⟨⟨u, v, up _ h fun e => hn (by rw [← e]; exact fz_mts G hb)⟩, hn2⟩⟩, x⟩
  · obtain ⟨h1, h2⟩ := List.mem_filter.mp hq
    exact ⟨xb _ _ (by simpa using h2) (I.W _ h1).1, (I.W _ h1).2⟩
  · exact (List.filter_sublist.map _).nodup I.nd
  · obtain ⟨p, e', oo⟩ := I.so i mo e
    refine ⟨p, e', oo.keepT tr fun q hq hqp => up q hq fun he => hn ?_⟩
    rw [← he]
    have := mem_mts G e'
    rcases hqp with h | h <;> rw [h]
    · exact this.1
    · exact this.2
  · exact (I.tb t ht).keepT tr fun q hq hqt => up q hq fun he => hn (by rw [← he, hqt]; exact tab_mts G ht)
theorem IR.bad {o : Obj} {it : It} (h : IR ρ o it) : ¬ Good o := by
  intro g
  cases h with
  | rng a n =>
    rcases g with ⟨_, _, h⟩ | ⟨_, h⟩ | ⟨h, _⟩ | ⟨_, _, _, h, h'⟩
    · (first | exact (no h).elim | cases h)
    · (first | exact (no h).elim | cases h)
    · simp at h
    · (first | exact (no h).elim | cases h); simp [rawInt] at h'
  | str h3 h4 =>
    rcases g with ⟨_, _, h⟩ | ⟨_, h⟩ | ⟨h, _⟩ | ⟨_, _, _, h, h'⟩
    · rw [h4] at h; (first | exact (no h).elim | cases h)
    · rw [h4] at h; (first | exact (no h).elim | cases h)
    · rw [h3] at h; unfold strIt at h; split at h <;> simp at h
    · rw [h4] at h; (first | exact (no h).elim | cases h); simp at h'
  | lst h3 h4 h5 =>
    rcases g with ⟨_, _, h⟩ | ⟨_, h⟩ | ⟨h, _⟩ | ⟨_, _, _, h, h'⟩
    · rw [h5] at h; (first | exact (no h).elim | cases h)
    · rw [h5] at h; (first | exact (no h).elim | cases h)
    · rw [h4] at h; simp at h
    · rw [h5] at h; (first | exact (no h).elim | cases h); simp at h'
/-- a few rows dropped that no value stands on -/
theorem dropXs {X : List Addr} {h' : Heap} {tk : Nat} (I : Inv G h₀ L m N ρ σ s.heap s.toks) (le : s.toks ≤ tk) (hX : ∀ c ∈ X, (∃ o, (c, o) ∈ N ∧ ¬ Good o) ∧ c ∉ mts G ρ) (xb : ∀ b o, b ∉ X → s.heap.get? b = some o → h'.get? b = some o) :
    Inv G h₀ L m (N.filter fun q => !X.contains q.1) ρ σ h' tk ∧ ExtX G X N ρ (N.filter fun q => !X.contains q.1) ρ := by
  have up : ∀ q ∈ N, q.1 ∉ X → q ∈ (N.filter fun q => !X.contains q.1) := fun q hq hne => List.mem_filter.mpr ⟨hq, by simpa using hne⟩
  have x : ExtX G X N ρ (N.filter fun q => !X.contains q.1) ρ := ⟨fun q hq _ he => up q hq he, ⟨[], by simp⟩, Rho.le.refl _, fun b hb => .inl hb, fun b ob hb he => ⟨ob, up _ hb he⟩⟩
  have bad : ∀ b ∈ X, ∀ ob, (b, ob) ∈ N → ¬ Good ob := fun b hb' ob hob => by
    obtain ⟨⟨o, h1, h2⟩, _⟩ := hX b hb'
    rwa [nodup_row I.nd hob h1]
  have tr := x.tr bad
  have off : ∀ b, (b = L ∨ ∃ o, h₀.get? b = some o) → b ∉ X := fun b hb hm => by
    obtain ⟨⟨o, h1, _⟩, _⟩ := hX b hm
    have w := I.W _ h1
    rcases hb with hb | ⟨ob, hb⟩
    · exact w.2.1 hb
    · have e := w.2.2
      rw [show ((b, o) : Addr × Obj).1 = b from rfl, hb] at e; (first | exact (no e).elim | cases e)
  obtain ⟨oL, a1, a2, hL, a3⟩ := I.F.ns
  refine ⟨⟨⟨⟨oL, a1, a2, xb _ _ (off _ (.inl rfl)) hL, a3⟩, fun b ob e => xb b ob (off b (.inr ⟨ob, e⟩)) (I.F.keep b ob e), I.F.above⟩, fun q hq => ?_, ?_, I.len, I.ap, fun i mo e => ?_, fun t ht => ?_, I.bk.mono le, fun b hb => let ⟨⟨u, v, h⟩, hn2⟩ := I.fz b hb; ⟨⟨u, v, up _ h fun e => (hX _ e).2 (fz_mts G hb)⟩, hn2⟩⟩, x⟩
  · obtain ⟨h1, h2⟩ := List.mem_filter.mp hq
    exact ⟨xb _ _ (by simpa using h2) (I.W _ h1).1, (I.W _ h1).2⟩
  · exact (List.filter_sublist.map _).nodup I.nd
  · obtain ⟨p, e', oo⟩ := I.so i mo e
    refine ⟨p, e', oo.keepT tr fun q hq hqp => up q hq fun he => (hX _ he).2 ?_⟩
    have := mem_mts G e'
    rcases hqp with h | h <;> rw [h]
    · exact this.1
    · exact this.2
  · exact (I.tb t ht).keepT tr fun q hq hqt => up q hq fun he => (hX _ he).2 (by rw [hqt]; exact tab_mts G ht)
/-- an iterator in the heap, with the rows that are its own -/
inductive ItOk (G : St) (N : Led) (ρ : Rho) : Addr → List Addr → It → Prop
  | one {a : Addr} {o : Obj} {it : It} : (a, o) ∈ N → a ∉ mts G ρ → IR ρ o it → ItOk G N ρ a [a] it
theorem ItOk.mono {a : Addr} {X : List Addr} {it : It} (x : Ext G N ρ N' ρ') (h : ItOk G N ρ a X it) : ItOk G N' ρ' a X it := by
  have k : ∀ {b : Addr} {o : Obj}, (b, o) ∈ N → b ∉ mts G ρ → (b, o) ∈ N' ∧ b ∉ mts G ρ' := fun h hn => ⟨x.sub _ h hn, x.off h hn⟩
  cases h with
  | one h1 h2 h3 => exact .one (k h1 h2).1 (k h1 h2).2 (h3.mono x)
theorem ItOk.rows {a : Addr} {X : List Addr} {it : It} (h : ItOk G N ρ a X it) : ∀ c ∈ X, (∃ o, (c, o) ∈ N ∧ ¬ Good o) ∧ c ∉ mts G ρ := by
  cases h with
  | one h1 h2 h3 => intro c hc; rw [List.mem_singleton.mp hc]; exact ⟨⟨_, h1, h3.bad⟩, h2⟩
theorem ItOk.bad {a : Addr} {X : List Addr} {it : It} (h : ItOk G N ρ a X it) (nd : (N.map (·.1)).Nodup) : ∀ c ∈ X, ∀ o, (c, o) ∈ N → ¬ Good o := fun c hc o ho => by
  obtain ⟨⟨o', h1, h2⟩, _⟩ := h.rows c hc
  rwa [nodup_row nd ho h1]
end
end Mine

open PySem PySem.W PyProof.Rows PySem.Calls
namespace Mine
set_option autoImplicit false
set_option backward.match.sparseCases false
set_option linter.unusedVariables false

section
variable {G : St} {A : Around} {h₀ : Heap} {L : Addr} {m : Str → Option Value} {N N' : Led} {ρ ρ' : Rho} {σ σ' σ'' : List MO} {s : Shared} {env : Env} {ns : Names} {sl sl' : List Slot} {n : Nat}

/-- the next one of an iterator -/
noncomputable def NextF (G : St) (h₀ : Heap) (L : Addr) (m : Str → Option Value) (σ : List MO) (a : Addr) (N : Led) (ρ : Rho) (s : Shared) (Q : Option Value → Shared → Prop) : Option (MV × It) → Prop
  | none => ∀ h' tk N', Inv G h₀ L m N' ρ σ h' tk → ExtX G [a] N ρ N' ρ → Q none { s with heap := h', toks := tk }
  | some p => ∀ h' tk N' o' u ts, Inv G h₀ L m N' (ρ.ups ts) σ h' tk → ExtX G [a] N ρ N' (ρ.ups ts) → (∀ b ob, (b, ob) ∈ N → ∃ ox, (b, ox) ∈ N') → (a, o') ∈ N' → IR (ρ.ups ts) o' p.2 → RV G N' (ρ.ups ts) u p.1 → Q (some u) { s with heap := h', toks := tk }
theorem nextS_lt {l : List Nat} {k : Nat} {c : Nat} {r : List Nat} (h : l.drop k = c :: r) : l[k]? = some c ∧ l.drop (k + 1) = r := by
  have h1 : (l.drop k)[0]? = some c := by rw [h]; rfl
  rw [List.getElem?_drop] at h1
  refine ⟨by simpa using h1, ?_⟩
  rw [show k + 1 = k + 1 from rfl, ← List.drop_drop, h]
  rfl
theorem nextF_ok {a : Addr} {o : Obj} {it : It} {r : Option (MV × It)} {Q : Option Value → Shared → Prop} {E : Value → Shared → Prop} (e : It.next σ it = some r) (hm : (a, o) ∈ N) (hn : a ∉ mts G ρ) (hr : IR ρ o it) (I : Inv G h₀ L m N ρ σ s.heap s.toks) (hh : A.handled = none)
    (q : NextF G h₀ L m σ a N ρ s Q r) : wpAny (model G.prog G.w) A (pyNext (.ref a)) Q E s := by
  have hb := hr.bad
  have hx := (I.W _ hm).1
  cases hr with
  | rng b k =>
    simp only [It.next, Option.some.injEq] at e
    cases k with
    | zero =>
      subst e
      refine wpAny_pyNext_range_end hh hx (by simp) fun h' xb => ?_
      obtain ⟨J, x⟩ := dropX I (Nat.le_refl _) hm hn hb xb
      exact q h' s.toks _ J x
    | succ k =>
      subst e
      refine wpAny_pyNext_range_item hx (by omega) fun h' hit sb => ?_
      obtain ⟨J, x, old, hm'⟩ := turnX I (Nat.le_add_right s.toks 1) hm hn hb sb hit
      have e2 : rawInt ((b : Int) + 1) = rawInt ((b + 1 : Nat) : Int) := by simp
      have e3 : rawInt (((k + 1 : Nat) : Int) - 1) = rawInt (k : Int) := by congr 1; omega
      rw [e2, e3] at hm' J x old
      exact q h' _ _ _ _ [] J x old hm' (.rng (b + 1) k) (.int _ _)
  | str h3 h4 =>
    rename_i l k t
    simp only [It.next, Option.some.injEq] at e
    cases hd : l.drop k with
    | nil =>
      rw [hd] at e
      simp only [nextS] at e
      subst e
      have hk : (tx l).cps[k]? = none := by
        show l.toArray[k]? = none
        have := List.drop_eq_nil_iff.mp hd
        simp; omega
      by_cases ha : l.toArray.all (· < 128) = true
      · have h3' : o.cls = .type "str_ascii_iterator" := by rw [h3]; unfold strIt; rw [if_pos ha]
        refine wpAny_pyNext_ascii_end hh ⟨_, hx, h3', h4⟩ hk fun h' xb => ?_
        obtain ⟨J, x⟩ := dropX I (Nat.le_refl _) hm hn hb xb
        exact q h' s.toks _ J x
      · have h3' : o.cls = .type "str_iterator" := by rw [h3]; unfold strIt; rw [if_neg ha]
        refine wpAny_pyNext_wide_end hh ⟨_, hx, h3', h4⟩ hk fun h' xb => ?_
        obtain ⟨J, x⟩ := dropX I (Nat.le_refl _) hm hn hb xb
        exact q h' s.toks _ J x
    | cons c r' =>
      rw [hd] at e
      simp only [nextS] at e
      subst e
      obtain ⟨g1, g2⟩ := nextS_lt hd
      have hk : (tx l).cps[k]? = some c := by show l.toArray[k]? = some c; simpa using g1
      by_cases ha : l.toArray.all (· < 128) = true
      · have h3' : o.cls = .type "str_ascii_iterator" := by rw [h3]; unfold strIt; rw [if_pos ha]
        refine wpAny_pyNext_ascii_item ⟨_, hx, h3', h4⟩ hk fun h' hit sb => ?_
        obtain ⟨o', ho', hc', hd'⟩ := hit
        obtain ⟨J, x, old, hm'⟩ := turnX I (Nat.le_refl _) hm hn hb sb ho'
        exact q h' _ _ o' _ [s.toks] J.sign.1 (x.trans old (J.sign.2.toX _)) old hm' (g2 ▸ .str (t := t) (by rw [hc']; unfold strIt; rw [if_pos ha]) (by simpa using hd')) (.chr (List.mem_cons_self ..))
      · have h3' : o.cls = .type "str_iterator" := by rw [h3]; unfold strIt; rw [if_neg ha]
        refine wpAny_pyNext_wide_item ⟨_, hx, h3', h4⟩ hk fun h' hit sb => ?_
        obtain ⟨o', ho', hc', hd'⟩ := hit
        obtain ⟨J, x, old, hm'⟩ := turnX I (Nat.le_refl _) hm hn hb sb ho'
        exact q h' _ _ o' _ [s.toks] J.sign.1 (x.trans old (J.sign.2.toX _)) old hm' (g2 ▸ .str (t := t) (by rw [hc']; unfold strIt; rw [if_neg ha]) (by simpa using hd')) (.chr (List.mem_cons_self ..))
  | lst h3 h4 h5 =>
    rename_i i k p
    simp only [It.next] at e
    cases hq : at? σ i with
    | none => rw [hq] at e; (first | exact (no e).elim | cases e)
    | some mo =>
      rw [hq] at e
      cases mo <;> try (exact (no e).elim)
      rename_i xs
      simp only [nextR] at e
      obtain ⟨ws, c, g1, g2, g3⟩ := list_at I h3 hq
      have hl := isList I g1
      cases hk : at? xs k with
      | none =>
        rw [hk] at e
        simp only [Option.some.injEq] at e
        subst e
        rw [at?_eq] at hk
        have hlen := g2.length
        have hk' : ws.toArray[k]? = none := by
          have := List.getElem?_eq_none_iff.mp hk
          simp; omega
        refine wpAny_pyNext_list_end hh ⟨_, hx, h4, h5⟩ hl hk' fun h' xb => ?_
        obtain ⟨J, x⟩ := dropX I (Nat.le_refl _) hm hn hb xb
        exact q h' s.toks _ J x
      | some v =>
        rw [hk] at e
        simp only [Option.some.injEq] at e
        subst e
        rw [at?_eq] at hk
        obtain ⟨u, hu, r⟩ := g2.at hk
        refine wpAny_pyNext_list_item (x := u) ⟨_, hx, h4, h5⟩ hl (by simpa using hu) fun h' hit sb => ?_
        obtain ⟨o', ho', hc', hd'⟩ := hit
        obtain ⟨J, x, old, hm'⟩ := turnX I (Nat.le_refl _) hm hn hb sb ho'
        have bad : ∀ b ∈ [a], ∀ ob, (b, ob) ∈ N → ¬ Good ob := fun b hb' ob hob => by
          rw [List.mem_singleton.mp hb'] at hob
          rwa [nodup_row I.nd hob hm]
        exact q h' s.toks _ o' u [] J x old hm' (.lst h3 hc' (by simpa using hd')) (r.monoT (x.tr bad))

/-! ## one turn of a loop -/
theorem while_step {test : Expr} {body : List Stmt} {R : Result → Shared → Prop}
    (h : wpAny (model G.prog G.w) A (isTrue test env (eval test env)) (fun b s₂ =>
        if b then wpAny (model G.prog G.w) A (execs body env) (fun f s₃ => match f with
            | .next | .cont => codeAny (model G.prog G.w) A (.whileLoop test body [] env) R s₃
            | .brk => R (.ok .next) s₃
            | .ret v => R (.ok (.ret v)) s₃) (notedBy (model G.prog G.w) A env fun e s' => R (.error e) s') s₂
        else R (.ok .next) s₂) (notedBy (model G.prog G.w) A env fun e s' => R (.error e) s') s) : codeAny (model G.prog G.w) A (.whileLoop test body [] env) R s := by
  refine codeAny_of_tree ?_
  show wpAny _ A ((whileTurn test body [] env).onRaise (fun x => do noteFrame x env; theTreesLotGoes x)) _ _ s
  refine wpAny_noted ?_
  simp only [whileTurn]
  refine wpAny_bind (wpAny_mono h (fun b s₂ h₂ => ?_) fun _ _ h' => h')
  cases b with
  | false =>
    simp only [Bool.false_eq_true, if_false] at h₂ ⊢
    exact wpAny_bind (wpAny_execs_nil (wpAny_pure h₂))
  | true =>
    simp only [if_true] at h₂ ⊢
    refine wpAny_bind (wpAny_mono h₂ (fun f s₃ h₃ => ?_) fun _ _ h' => h')
    cases f with
    | next => exact wpAny_pure ⟨rfl, h₃⟩
    | cont => exact wpAny_pure ⟨rfl, h₃⟩
    | brk => exact wpAny_pure h₃
    | ret v => exact wpAny_pure h₃
theorem for_step {target : Expr} {it : Value} {body : List Stmt} {R : Result → Shared → Prop}
    (h : wpAny (model G.prog G.w) A (pyNext it) (fun r s₁ => match r with
      | none => R (.ok .next) s₁
      | some v => wpAny (model G.prog G.w) A (letOwnedTupleGo target it v) (fun _ s₁' =>
          wpAny (model G.prog G.w) A (assign target env v) (fun _ s₂ => wpAny (model G.prog G.w) A (execs body env) (fun f s₃ => match f with
            | .next | .cont => codeAny (model G.prog G.w) A (.forLoop target it body [] env) R s₃
            | .brk => R (.ok .next) s₃
            | .ret v => R (.ok (.ret v)) s₃) (notedBy (model G.prog G.w) A env fun e s' => R (.error e) s') s₂) (notedBy (model G.prog G.w) A env fun e s' => R (.error e) s') s₁') (notedBy (model G.prog G.w) A env fun e s' => R (.error e) s') s₁) (notedBy (model G.prog G.w) A env fun e s' => R (.error e) s') s) :
    codeAny (model G.prog G.w) A (.forLoop target it body [] env) R s := by
  refine codeAny_of_tree ?_
  show wpAny _ A ((forTurn target it body [] env).onRaise (fun x => do noteFrame x env; theTreesLotGoes x)) _ _ s
  refine wpAny_noted ?_
  simp only [forTurn]
  refine wpAny_bind (wpAny_standAt (wpAny_bind (wpAny_onRaise (wpAny_mono h (fun r s₁ h₁ => ?_) fun _ _ h' => wpAny_standAt h'))))
  cases r with
  | none => exact wpAny_pure ⟨rfl, codeAny_block (wpAny_execs_nil h₁)⟩
  | some v =>
    refine wpAny_bind (wpAny_mono h₁ (fun _ s₁' h₁' => ?_) fun _ _ h' => h')
    refine wpAny_bind (wpAny_mono h₁' (fun _ s₂ h₂ => wpAny_bind (wpAny_mono h₂ (fun f s₃ h₃ => ?_) fun _ _ h' => h')) fun _ _ h' => h')
    cases f with
    | next => exact wpAny_pure ⟨rfl, h₃⟩
    | cont => exact wpAny_pure ⟨rfl, h₃⟩
    | brk => exact wpAny_pure h₃
    | ret v => exact wpAny_pure h₃
theorem comp_step {elt target iter : Expr} {ifs : List Expr} {scope : Scope} {pos : Pos} {it acc : Value} {R : Result → Shared → Prop}
    (h : wpAny (model G.prog G.w) A (pyNext it) (fun r s₁ => match r with
      | none => R (.ok .next) s₁
      | some v => wpAny (model G.prog G.w) A (letOwnedTupleGo target it v) (fun _ s₁' =>
          wpAny (model G.prog G.w) A (assign target env v) (fun _ s₂ =>
          wpAny (model G.prog G.w) A (forIn ifs true fun c r => if r = true then do let ok ← isTrue c env (eval c env); pure (ForInStep.yield ok) else pure (ForInStep.yield r)) (fun ok s₃ =>
            if ok = true then wpAny (model G.prog G.w) A (eval elt env) (fun x s₄ =>
              wpAny (model G.prog G.w) A (call (.builtin "list.append") [acc, x]) (fun _ s₅ => codeAny (model G.prog G.w) A (.compLoop (.ListComp elt [⟨target, iter, ifs, 0⟩] scope pos) 0 it acc env) R s₅) (notedBy (model G.prog G.w) A env fun e s' => R (.error e) s') s₄) (notedBy (model G.prog G.w) A env fun e s' => R (.error e) s') s₃
            else codeAny (model G.prog G.w) A (.compLoop (.ListComp elt [⟨target, iter, ifs, 0⟩] scope pos) 0 it acc env) R s₃) (notedBy (model G.prog G.w) A env fun e s' => R (.error e) s') s₂) (notedBy (model G.prog G.w) A env fun e s' => R (.error e) s') s₁') (notedBy (model G.prog G.w) A env fun e s' => R (.error e) s') s₁) (notedBy (model G.prog G.w) A env fun e s' => R (.error e) s') s) : codeAny (model G.prog G.w) A (.compLoop (.ListComp elt [⟨target, iter, ifs, 0⟩] scope pos) 0 it acc env) R s := by
  refine codeAny_of_tree ?_
  show wpAny _ A ((compTurn (.ListComp elt [⟨target, iter, ifs, 0⟩] scope pos) 0 it acc env).onRaise (fun x => do noteFrame x env; theTreesLotGoes x)) _ _ s
  refine wpAny_noted ?_
  rw [compTurn_list]
  refine wpAny_bind (wpAny_standAt (wpAny_bind (wpAny_mono h (fun r s₁ h₁ => ?_) fun _ _ h' => h')))
  cases r with
  | none => exact wpAny_pure h₁
  | some v =>
    refine wpAny_bind (wpAny_mono h₁ (fun _ s₁' h₁' => ?_) fun _ _ h' => h')
    refine wpAny_bind (wpAny_mono h₁' (fun _ s₂ h₂ => wpAny_bind (wpAny_mono h₂ (fun ok s₃ h₃ => ?_) fun _ _ h' => h')) fun _ _ h' => h')
    cases ok with
    | false => exact wpAny_pure ⟨rfl, h₃⟩
    | true =>
      exact wpAny_bind (wpAny_bind (wpAny_mono h₃ (fun x s₄ h₄ => wpAny_bind (wpAny_mono h₄ (fun _ s₅ h₅ => wpAny_pure (wpAny_pure ⟨rfl, h₅⟩)) fun _ _ h' => h')) fun _ _ h' => h'))
end
end Mine

open PySem PySem.W PyProof.Rows PySem.Calls
namespace Mine
set_option autoImplicit false
set_option backward.match.sparseCases false
set_option linter.unusedVariables false

section
variable {G : St} {A : Around} {h₀ : Heap} {L : Addr} {m : Str → Option Value} {N N' : Led} {ρ ρ' : Rho} {σ σ' σ'' : List MO} {s : Shared} {env : Env} {ns : Names} {sl sl' : List Slot} {n : Nat}
noncomputable def NextQ (G : St) (h₀ : Heap) (L : Addr) (m : Str → Option Value) (σ : List MO) (a : Addr) (X : List Addr) (N : Led) (ρ : Rho) (s : Shared) (Q : Option Value → Shared → Prop) : Option (MV × It) → Prop
  | none => ∀ h' tk N', Inv G h₀ L m N' ρ σ h' tk → ExtX G X N ρ N' ρ → Q none { s with heap := h', toks := tk }
  | some p => ∀ h' tk N' u ts, Inv G h₀ L m N' (ρ.ups ts) σ h' tk → ExtX G X N ρ N' (ρ.ups ts) → (∀ b ob, (b, ob) ∈ N → ∃ ox, (b, ox) ∈ N') → ItOk G N' (ρ.ups ts) a X p.2 → RV G N' (ρ.ups ts) u p.1 → Q (some u) { s with heap := h', toks := tk }
noncomputable def TurnQ (G : St) (A : Around) (E : Value → Shared → Prop) (tgt : Expr) (a : Addr) (Q : Option Value → Shared → Prop) (r : Option Value) (s₁ : Shared) : Prop := match r with
  | none => Q none s₁
  | some v => wpAny (model G.prog G.w) A (letOwnedTupleGo tgt (.ref a) v) (fun _ s₂ => Q (some v) s₂) E s₁
/-- one turn of a loop: the next one, and the tuple that the iterator lent taken apart -/
theorem turn_ok {a : Addr} {X : List Addr} {it : It} {r : Option (MV × It)} {tgt : Expr} {Q : Option Value → Shared → Prop} {E : Value → Shared → Prop} (e : it.next σ = some r) (O : ItOk G N ρ a X it) (I : Inv G h₀ L m N ρ σ s.heap s.toks) (hh : A.handled = none)
    (hn : ∀ p, r = some p → ∀ w, letOwnedTupleGo tgt (.ref a) w = pure ()) (q : NextQ G h₀ L m σ a X N ρ s Q r) :
    wpAny (model G.prog G.w) A (pyNext (.ref a)) (TurnQ G A E tgt a Q) E s := by
  cases O with
  | one h1 h2 h3 =>
    refine nextF_ok e h1 h2 h3 I hh ?_
    cases r with
    | none => exact fun h' tk N' J x => q h' tk N' J x
    | some p =>
      intro h' tk N' o' u ts J x old hm hr hu
      exact wpAny_of_eq (hn p rfl u) (q h' tk N' u ts J x old (.one hm (x.off h1 h2) hr) hu)
noncomputable def ForQ (G : St) (A : Around) (env : Env) (target : Expr) (it : Value) (body : List Stmt) (R : Result → Shared → Prop) : Option Value → Shared → Prop
  | none, s => R (.ok .next) s
  | some v, s => wpAny (model G.prog G.w) A (assign target env v) (fun _ s₂ => wpAny (model G.prog G.w) A (execs body env) (fun f s₃ => match f with
            | .next | .cont => codeAny (model G.prog G.w) A (.forLoop target it body [] env) R s₃
            | .brk => R (.ok .next) s₃
            | .ret v => R (.ok (.ret v)) s₃) (notedBy (model G.prog G.w) A env fun e s' => R (.error e) s') s₂) (notedBy (model G.prog G.w) A env fun e s' => R (.error e) s') s
theorem for_turn {a : Addr} {X : List Addr} {it : It} {r : Option (MV × It)} {tgt : Expr} {body : List Stmt} {R : Result → Shared → Prop} (e : it.next σ = some r) (O : ItOk G N ρ a X it) (I : Inv G h₀ L m N ρ σ s.heap s.toks) (hh : A.handled = none)
    (hn : ∀ p, r = some p → ∀ w, letOwnedTupleGo tgt (.ref a) w = pure ()) (q : NextQ G h₀ L m σ a X N ρ s (ForQ G A env tgt (.ref a) body R) r) :
    codeAny (model G.prog G.w) A (.forLoop tgt (.ref a) body [] env) R s := by
  refine for_step (wpAny_mono (turn_ok (Q := ForQ G A env tgt (.ref a) body R) (E := notedBy (model G.prog G.w) A env fun e s' => R (.error e) s') e O I hh hn q) (fun r s₁ h => ?_) (fun _ _ h => h))
  cases r <;> exact h
noncomputable def CompQ (G : St) (A : Around) (env : Env) (elt target iter : Expr) (ifs : List Expr) (scope : Scope) (pos : Pos) (it acc : Value) (R : Result → Shared → Prop) : Option Value → Shared → Prop
  | none, s => R (.ok .next) s
  | some v, s => wpAny (model G.prog G.w) A (assign target env v) (fun _ s₂ =>
          wpAny (model G.prog G.w) A (forIn ifs true fun c r => if r = true then do let ok ← isTrue c env (eval c env); pure (ForInStep.yield ok) else pure (ForInStep.yield r)) (fun ok s₃ =>
            if ok = true then wpAny (model G.prog G.w) A (eval elt env) (fun x s₄ =>
              wpAny (model G.prog G.w) A (call (.builtin "list.append") [acc, x]) (fun _ s₅ => codeAny (model G.prog G.w) A (.compLoop (.ListComp elt [⟨target, iter, ifs, 0⟩] scope pos) 0 it acc env) R s₅) (notedBy (model G.prog G.w) A env fun e s' => R (.error e) s') s₄) (notedBy (model G.prog G.w) A env fun e s' => R (.error e) s') s₃
            else codeAny (model G.prog G.w) A (.compLoop (.ListComp elt [⟨target, iter, ifs, 0⟩] scope pos) 0 it acc env) R s₃) (notedBy (model G.prog G.w) A env fun e s' => R (.error e) s') s₂) (notedBy (model G.prog G.w) A env fun e s' => R (.error e) s') s
theorem comp_turn {a : Addr} {X : List Addr} {it : It} {r : Option (MV × It)} {elt tgt iter : Expr} {ifs : List Expr} {scope : Scope} {pos : Pos} {acc : Value} {R : Result → Shared → Prop} (e : it.next σ = some r) (O : ItOk G N ρ a X it) (I : Inv G h₀ L m N ρ σ s.heap s.toks) (hh : A.handled = none)
    (hn : ∀ p, r = some p → ∀ w, letOwnedTupleGo tgt (.ref a) w = pure ()) (q : NextQ G h₀ L m σ a X N ρ s (CompQ G A env elt tgt iter ifs scope pos (.ref a) acc R) r) :
    codeAny (model G.prog G.w) A (.compLoop (.ListComp elt [⟨tgt, iter, ifs, 0⟩] scope pos) 0 (.ref a) acc env) R s := by
  refine comp_step (wpAny_mono (turn_ok (Q := CompQ G A env elt tgt iter ifs scope pos (.ref a) acc R) (E := notedBy (model G.prog G.w) A env fun e s' => R (.error e) s') e O I hh hn q) (fun r s₁ h => ?_) (fun _ _ h => h))
  cases r <;> exact h
/-- rows that turn which are no iterator's own -/
theorem ItOk.keepX {a C : Addr} {X : List Addr} {it : It} (x : ExtX G [C] N ρ N' ρ') (hC : ∀ o, (C, o) ∈ N → ¬ Good o) (hX : C ∉ X) (h : ItOk G N ρ a X it) : ItOk G N' ρ' a X it := by
  have tr := x.tr fun b hb o ho => hC o (by rw [← List.mem_singleton.mp hb]; exact ho)
  have k : ∀ {b : Addr} {o : Obj}, (b, o) ∈ N → b ∉ mts G ρ → b ∈ X → (b, o) ∈ N' ∧ b ∉ mts G ρ' := fun h hn hb => ⟨x.sub _ h hn fun e => hX (by rw [← List.mem_singleton.mp e]; exact hb), x.off h hn⟩
  cases h with
  | one h1 h2 h3 => have k1 := k h1 h2 (by simp); exact .one k1.1 k1.2 (h3.monoT tr)
end
end Mine

open PySem PySem.W PyProof.Rows PySem.Calls
namespace Mine
set_option autoImplicit false
set_option backward.match.sparseCases false
set_option linter.unusedVariables false

/-- how a statement ends -/
noncomputable def FlR (G : St) : Fl → Flow → Led → Rho → Prop
  | .next, f, _, _ => f = .next
  | .brk, f, _, _ => f = .brk
  | .ret v, f, N, ρ => ∃ u, f = .ret u ∧ RV G N ρ u v
noncomputable abbrev testsOf (ifs : List Expr) (env : Env) : Sem Bool := forIn ifs true fun c r => if r = true then do let ok ← isTrue c env (eval c env); pure (ForInStep.yield ok) else pure (ForInStep.yield r)

structure Sound (G : St) (r : Rec) (n : Nat) : Prop where
  num : r.n = n
  nr : ∀ x sl σ, r.e (.raw x) sl σ = none
  e : ∀ {A : Around} {env : Env} {h₀ : Heap} {L : Addr} {ns : Names} {m : Str → Option Value} {N : Led} {ρ : Rho} {s : Shared} {e : E} {sl : List Slot} {σ σ' : List MO} {v : MV}, EnvOk G A env h₀ L n → Slots G L env ns m N ρ sl → Inv G h₀ L m N ρ σ s.heap s.toks →
    r.e e sl σ = some (v, σ') → Wp G A h₀ L m (eval (e.er ns) env) σ' (VR G v) N ρ s
  es : ∀ {A : Around} {env : Env} {h₀ : Heap} {L : Addr} {ns : Names} {m : Str → Option Value} {N : Led} {ρ : Rho} {s : Shared} {es : List E} {sl : List Slot} {σ σ' : List MO} {vs : List MV} {pos : Pos}, EnvOk G A env h₀ L n → Slots G L env ns m N ρ sl → Inv G h₀ L m N ρ σ s.heap s.toks →
    r.es es sl σ = some (vs, σ') → Wp G A h₀ L m (spliced (backTo pos (starEach (E.ers ns es) env))) σ' (VRs G vs) N ρ s
  esn : ∀ {env : Env} {ns : Names} {es : List E} {sl : List Slot} {σ : List MO} {y : List MV × List MO} {pos : Pos}, r.es es sl σ = some y → (backTo pos (starEach (E.ers ns es) env)).any (·.1) = false
  eo : ∀ {A : Around} {env : Env} {h₀ : Heap} {L : Addr} {ns : Names} {m : Str → Option Value} {N : Led} {ρ : Rho} {s : Shared} {e : Option E} {sl : List Slot} {σ σ' : List MO} {v : MV}, EnvOk G A env h₀ L n → Slots G L env ns m N ρ sl → Inv G h₀ L m N ρ σ s.heap s.toks →
    r.eo e sl σ = some (v, σ') → Wp G A h₀ L m (evalPart (E.ero ns e) env) σ' (VR G v) N ρ s
  t : ∀ {A : Around} {env : Env} {h₀ : Heap} {L : Addr} {ns : Names} {m : Str → Option Value} {N : Led} {ρ : Rho} {s : Shared} {e : E} {sl : List Slot} {σ σ' : List MO} {b : Bool}, EnvOk G A env h₀ L n → Slots G L env ns m N ρ sl → Inv G h₀ L m N ρ σ s.heap s.toks →
    r.t e sl σ = some (b, σ') → Wp G A h₀ L m (isTrue (e.er ns) env (eval (e.er ns) env)) σ' (BR b) N ρ s
  ts : ∀ {A : Around} {env : Env} {h₀ : Heap} {L : Addr} {ns : Names} {m : Str → Option Value} {N : Led} {ρ : Rho} {s : Shared} {op : BoolOp} {es : List E} {sl : List Slot} {σ σ' : List MO} {b : Bool}, EnvOk G A env h₀ L n → Slots G L env ns m N ρ sl → Inv G h₀ L m N ρ σ s.heap s.toks →
    r.ts op es sl σ = some (b, σ') → Wp G A h₀ L m (allTrue op (E.ers ns es) env) σ' (BR b) N ρ s
  tf : ∀ {A : Around} {env : Env} {h₀ : Heap} {L : Addr} {ns : Names} {m : Str → Option Value} {N : Led} {ρ : Rho} {s : Shared} {es : List E} {sl : List Slot} {σ σ' : List MO} {b : Bool}, EnvOk G A env h₀ L n → Slots G L env ns m N ρ sl → Inv G h₀ L m N ρ σ s.heap s.toks →
    r.ts .And es sl σ = some (b, σ') → Wp G A h₀ L m (testsOf (E.ers ns es) env) σ' (BR b) N ρ s
  a : ∀ {A : Around} {env : Env} {h₀ : Heap} {L : Addr} {ns : Names} {m : Str → Option Value} {N : Led} {ρ : Rho} {s : Shared} {t : T} {u : Value} {v : MV} {sl sl' : List Slot} {σ σ' : List MO}, EnvOk G A env h₀ L n → env.locals = L → Slots G L env ns m N ρ sl → Inv G h₀ L m N ρ σ s.heap s.toks → RV G N ρ u v →
    r.a t v sl σ = some (sl', σ') → WpS G A h₀ L env ns m (assign (t.er ns) env u) sl' σ' UR N ρ s
  as : ∀ {A : Around} {env : Env} {h₀ : Heap} {L : Addr} {ns : Names} {m : Str → Option Value} {N : Led} {ρ : Rho} {s : Shared} {ts : List T} {us : List Value} {vs : List MV} {sl sl' : List Slot} {σ σ' : List MO}, EnvOk G A env h₀ L n → env.locals = L → Slots G L env ns m N ρ sl → Inv G h₀ L m N ρ σ s.heap s.toks → RVs G N ρ us vs →
    r.as ts vs sl σ = some (sl', σ') → WpS G A h₀ L env ns m (assignInOrder ((assignEach (T.ers ns ts) env).map (·.2)) us) sl' σ' UR N ρ s
  s : ∀ {A : Around} {env : Env} {h₀ : Heap} {L : Addr} {ns : Names} {m : Str → Option Value} {N : Led} {ρ : Rho} {s : Shared} {st : S} {fl : Fl} {sl sl' : List Slot} {σ σ' : List MO}, EnvOk G A env h₀ L n → env.locals = L → Slots G L env ns m N ρ sl → Inv G h₀ L m N ρ σ s.heap s.toks →
    r.s st sl σ = some (fl, sl', σ') → WpS G A h₀ L env ns m (exec (st.er ns) env) sl' σ' (FlR G fl) N ρ s
  ss : ∀ {A : Around} {env : Env} {h₀ : Heap} {L : Addr} {ns : Names} {m : Str → Option Value} {N : Led} {ρ : Rho} {s : Shared} {ss : List S} {fl : Fl} {sl sl' : List Slot} {σ σ' : List MO}, EnvOk G A env h₀ L n → env.locals = L → Slots G L env ns m N ρ sl → Inv G h₀ L m N ρ σ s.heap s.toks →
    r.ss ss sl σ = some (fl, sl', σ') → WpS G A h₀ L env ns m (execs (S.ers ns ss) env) sl' σ' (FlR G fl) N ρ s
  wh : ∀ {A : Around} {env : Env} {h₀ : Heap} {L : Addr} {ns : Names} {m : Str → Option Value} {N : Led} {ρ : Rho} {s : Shared} {t : E} {b : List S} {fl : Fl} {sl sl' : List Slot} {σ σ' : List MO}, EnvOk G A env h₀ L n → env.locals = L → Slots G L env ns m N ρ sl → Inv G h₀ L m N ρ σ s.heap s.toks →
    r.wh t b sl σ = some (fl, sl', σ') → ∀ (P : Result → Shared → Prop), (∀ f h' tk N' ρ' m', Inv G h₀ L m' N' ρ' σ' h' tk → Ext G N ρ N' ρ' → Slots G L env ns m' N' ρ' sl' → FlR G fl f N' ρ' → P (.ok f) { s with heap := h', toks := tk }) →
      codeAny (model G.prog G.w) A (.whileLoop (t.er ns) (S.ers ns b) [] env) P s
  fr : ∀ {A : Around} {env : Env} {h₀ : Heap} {L : Addr} {ns : Names} {m : Str → Option Value} {N : Led} {ρ : Rho} {s : Shared} {t : T} {it : It} {b : List S} {fl : Fl} {sl sl' : List Slot} {σ σ' : List MO} {a : Addr} {X : List Addr}, EnvOk G A env h₀ L n → env.locals = L → Slots G L env ns m N ρ sl → Inv G h₀ L m N ρ σ s.heap s.toks →
    ItOk G N ρ a X it → r.fr t it b sl σ = some (fl, sl', σ') → ∀ (P : Result → Shared → Prop), (∀ f h' tk N' ρ' m', Inv G h₀ L m' N' ρ' σ' h' tk → ExtX G X N ρ N' ρ' → Slots G L env ns m' N' ρ' sl' → FlR G fl f N' ρ' → P (.ok f) { s with heap := h', toks := tk }) →
      codeAny (model G.prog G.w) A (.forLoop (t.er ns) (.ref a) (S.ers ns b) [] env) P s
  co : ∀ {A : Around} {env : Env} {h₀ : Heap} {L : Addr} {m : Str → Option Value} {N : Led} {ρ : Rho} {s : Shared} {elt : E} {ct : CTg} {u : Nat} {iter : Expr} {sc : Scope} {p : Pos} {ifs : List E} {it : It} {ka : Nat} {sl : List Slot} {σ σ' : List MO} {a C D : Addr} {X : List Addr} {oC : Obj} {mc : Str → Option Value}, EnvOk G A env h₀ L n → env.locals = C →
    C ≠ L → C ∉ X → (∀ i ∈ ct.ix, env.kindOf ((nmAt u).at i) = some .local ∧ i < (nmAt u).length) → Slots G L env (nmAt u) m N ρ sl → Inv G h₀ L m N ρ σ s.heap s.toks →
    ItOk G N ρ a X it → (C, oC) ∈ N → C ∉ mts G ρ → NsOb oC mc → ρ.l[ka]? = some (D, D) → r.co elt ct ifs it ka sl σ = some σ' →
    ∀ (P : Result → Shared → Prop), (∀ h' tk N' ρ' oC' mc', Inv G h₀ L m N' ρ' σ' h' tk → ExtX G (C :: X) N ρ N' ρ' → (C, oC') ∈ N' → NsOb oC' mc' → P (.ok .next) { s with heap := h', toks := tk }) →
      codeAny (model G.prog G.w) A (.compLoop (.ListComp (elt.er (nmAt u)) [⟨ct.er (nmAt u), iter, E.ers (nmAt u) ifs, 0⟩] sc p) 0 (.ref a) (.ref D) env) P s
  keep : ∀ {A : Around} {env : Env} {h₀ : Heap} {L : Addr} {m : Str → Option Value} {N : Led} {ρ : Rho} {s : Shared} {f : MV} {as : List MV} {vf : Value} {σ σ' : List MO} {y : MV × List MO}, EnvOk G A env h₀ L n → Inv G h₀ L m N ρ σ' s.heap s.toks → RV G N ρ vf f → r.call f as σ = some y →
    ∃ k, (k = Keeper.frame ∨ k = Keeper.machine ∨ k = Keeper.boundFrame) ∧ Looks (model G.prog G.w) s.heap (keeperOf vf) k
  call : ∀ {A : Around} {env : Env} {h₀ : Heap} {L : Addr} {m : Str → Option Value} {N : Led} {ρ : Rho} {s : Shared} {f v : MV} {as : List MV} {vf : Value} {vs : List Value} {σ σ' : List MO}, EnvOk G A env h₀ L n → Inv G h₀ L m N ρ σ s.heap s.toks → RV G N ρ vf f → RVs G N ρ vs as →
    r.call f as σ = some (v, σ') → Wp G A h₀ L m (call vf vs) σ' (VR G v) N ρ s
  callF : ∀ {A : Around} {env : Env} {h₀ : Heap} {L : Addr} {m : Str → Option Value} {N : Led} {ρ : Rho} {s : Shared} {k : Nat} {v : MV} {as : List MV} {vs : List Value} {σ σ' : List MO}, EnvOk G A env h₀ L n → Inv G h₀ L m N ρ σ s.heap s.toks → RVs G N ρ vs as →
    r.call (.fn k) as σ = some (v, σ') → ∀ (P : Result → Shared → Prop), (∀ u h' tk N' ρ', Inv G h₀ L m N' ρ' σ' h' tk → Ext G N ρ N' ρ' → RV G N' ρ' u v → P (.ok (.ret u)) { s with heap := h', toks := tk }) →
      codeAny (model G.prog G.w) A (.call (.ref (G.FA k)) ⟨vs, []⟩) P s

theorem sound_nil (G : St) : Sound G .nil 0 where
  num := rfl
  nr _ _ _ := rfl
  e _ _ _ h := nomatch h
  es _ _ _ h := nomatch h
  esn h := nomatch h
  eo _ _ _ h := nomatch h
  t _ _ _ h := nomatch h
  ts _ _ _ h := nomatch h
  tf _ _ _ h := nomatch h
  a _ _ _ _ _ h := nomatch h
  as _ _ _ _ _ h := nomatch h
  s _ _ _ _ h := nomatch h
  ss _ _ _ _ h := nomatch h
  wh _ _ _ _ h := nomatch h
  fr _ _ _ _ _ h := nomatch h
  co _ _ _ _ _ _ _ _ _ _ _ _ h := nomatch h
  keep _ _ _ h := nomatch h
  call _ _ _ _ h := nomatch h
  callF _ _ _ h := nomatch h

theorem bind_some {α β : Type} {x : Option α} {f : α → Option β} {b : β} (h : x.bind f = some b) : ∃ a, x = some a ∧ f a = some b := by
  cases x with
  | none => (first | exact (no h).elim | cases h)
  | some a => exact ⟨a, rfl, h⟩
theorem cond_some {α : Type} {c : Bool} {x : Option α} {b : α} (h : cond c x none = some b) : c = true ∧ x = some b := by
  cases c with
  | false => (first | exact (no h).elim | cases h)
  | true => exact ⟨rfl, h⟩

section
variable {G : St} {CT : List Cl} {GV : List (Option MV)} {r : Rec} {n : Nat} (hs : Sound G r n) {A : Around} {env : Env} {h₀ : Heap} {L : Addr} {ns : Names} {m : Str → Option Value} {N : Led} {ρ : Rho} {s : Shared} {sl sl' : List Slot} {σ σ' : List MO} {v : MV}

include hs in
theorem Sound.NR {e : E} {y : MV × List MO} (h : r.e e sl σ = some y) : NR e := fun x hx => by subst hx; rw [hs.nr] at h; (first | exact (no h).elim | cases h)
theorem const_ok (c : Cst) {k : Nat} {p : Pos} (I : Inv G h₀ L m N ρ σ s.heap s.toks) : Wp G A h₀ L m (eval (.Constant c.er k p) env) σ (VR G c.mv) N ρ s := by
  cases c with
  | none => exact Wp.same' I .none fun Q E q => wpAny_Constant_none q
  | bool b => exact Wp.same' I (.bool b) fun Q E q => wpAny_Constant_bool q
  | int i => exact Wp.same I (.int i s.toks) fun Q E q => wpAny_Constant_int q
  | str l => exact Wp.same I (.str l s.toks) fun Q E q => Constant_str q
  | emp => exact Wp.lit I fun Q E q => Constant_str q
theorem marked_er {op : CmpOp} {e : E} (h : NR e) (t : Sem Value) : markedEach [op] [e.er ns] [t] = [t] := by
  show [markedBehindIn op (e.er ns) t] = [t]
  cases e <;> first | exact absurd rfl (h _) | rfl
theorem okBase_er {e : E} (h : okBase e = true) (a : Str) (t : Sem Value) : attributeBase (e.er ns) a env t = t := by
  cases e <;> first | ((first | exact (no h).elim | cases h); done) | rfl
end
end Mine

open PySem PySem.W PyProof.Rows PySem.Calls
namespace Mine
set_option autoImplicit false
set_option backward.match.sparseCases false
set_option linter.unusedVariables false
set_option maxRecDepth 20000

section
variable {G : St} {CT : List Cl} {GV : List (Option MV)} {r : Rec} {n : Nat} {A : Around} {env : Env} {h₀ : Heap} {L : Addr} {ns : Names} {m : Str → Option Value} {N : Led} {ρ : Rho} {s : Shared} {sl sl' : List Slot} {σ σ' : List MO} {v : MV}

theorem alloc1 {D : Addr} {o : Obj} {mo : MO} {h' : Heap} {tk : Nat} (I : Inv G h₀ L m N ρ σ s.heap s.toks) (le : s.toks ≤ tk) (F' : Fr h₀ L h' m) (W' : News h₀ L h' ((D, o) :: N)) (fr : Fresh N D) (ho : ∀ ρ', Ext G N ρ ((D, o) :: N) ρ' → OR G ((D, o) :: N) ρ' (D, D) mo) :
    Inv G h₀ L m ((D, o) :: N) (ρ.add (D, D)) (σ ++ [mo]) h' tk ∧ Ext G N ρ ((D, o) :: N) (ρ.add (D, D)) ∧ RV G ((D, o) :: N) (ρ.add (D, D)) (.ref D) (.ref σ.length) := by
  have J := I.alloc le (new := [(D, o)]) (p := (D, D)) (mo := mo) F' W' (by simp) (by simpa using fr) fr fr ho
  exact ⟨J.1, J.2, .ref (p := (D, D)) (by rw [← I.len]; simp [Rho.app])⟩

variable (hs : Sound G r n)
include hs
theorem cmp_ok {l rr : E} {op : CmpOp} {b : Bool} (H : EnvOk G A env h₀ L n) (S : Slots G L env ns m N ρ sl) (I : Inv G h₀ L m N ρ σ s.heap s.toks) (e : eCmp r l op rr sl σ = some (b, σ')) :
    NR rr ∧ ∀ {α : Type} (f : Value → Value → Sem α) (R : α → Led → Rho → Prop),
      (∀ va vb (h₂ : Heap) (tk₂ : Nat) N₂ ρ₂, Inv G h₀ L m N₂ ρ₂ σ' h₂ tk₂ → Ext G N ρ N₂ ρ₂ → (∀ (Q : Value → Shared → Prop) (E : Value → Shared → Prop), Q (.bool b) { s with heap := h₂, toks := tk₂ } → wpAny (model G.prog G.w) A (compareOp op va vb) Q E { s with heap := h₂, toks := tk₂ }) →
        Wp G A h₀ L m (f va vb) σ' R N₂ ρ₂ { s with heap := h₂, toks := tk₂ }) →
      Wp G A h₀ L m (eval (l.er ns) env >>= fun a => holding [a] (eval (rr.er ns) env) >>= f a) σ' R N ρ s := by
  unfold eCmp at e
  obtain ⟨x, e1, e⟩ := bind_some e
  obtain ⟨y, e2, e⟩ := bind_some e
  obtain ⟨c, e3, e⟩ := bind_some e
  (first | exact (no e).elim | cases e)
  refine ⟨hs.NR e2, fun f R k => ?_⟩
  refine (hs.e H S I e1).bind fun a h₁ tk N₁ ρ₁ I₁ x₁ r₁ => ?_
  refine ((hs.e H (S.mono x₁) I₁ e2).hold).bind fun b h₂ tk₂ N₂ ρ₂ I₂ x₂ r₂ => ?_
  exact k a b h₂ tk₂ N₂ ρ₂ I₂ (x₁.trans x₂) (cmpop_ok (s := { s with heap := h₂, toks := tk₂ }) e3 (r₁.mono x₂).wk r₂.wk I₂ H.X H.u64)

theorem st_e_cmp {l rr : E} {op : CmpOp} {p : Pos} (H : EnvOk G A env h₀ L n) (S : Slots G L env ns m N ρ sl) (I : Inv G h₀ L m N ρ σ s.heap s.toks) {x : Bool × List MO} (e : eCmp r l op rr sl σ = some x) :
    Wp G A h₀ L m (eval ((E.cmp l op rr p).er ns) env) x.2 (VR G (.bool x.1)) N ρ s := by
  obtain ⟨b, σ'⟩ := x
  obtain ⟨nr, k⟩ := cmp_ok hs H S I e
  show Wp G A h₀ L m (eval (.Compare (l.er ns) [op] [rr.er ns] p) env) _ _ _ _ _
  rw [arm_eval_Compare]
  show Wp G A h₀ L m (eval (l.er ns) env >>= fun a => compareChain p a [op] (markedEach [op] [rr.er ns] [eval (rr.er ns) env])) _ _ _ _ _
  rw [marked_er nr]
  refine k (fun a b => standAt p >>= fun _ => operate [a, b] (compareOp op a b)) _ fun va vb h₂ tk₂ N₂ ρ₂ I₂ x₂ c => ?_
  exact Wp.stand (Wp.oper (Wp.same' I₂ (.bool b) c))
theorem st_t_cmp {l rr : E} {op : CmpOp} {p : Pos} (H : EnvOk G A env h₀ L n) (S : Slots G L env ns m N ρ sl) (I : Inv G h₀ L m N ρ σ s.heap s.toks) {b : Bool} (e : eCmp r l op rr sl σ = some (b, σ')) :
    Wp G A h₀ L m (isTrue ((E.cmp l op rr p).er ns) env (eval ((E.cmp l op rr p).er ns) env)) σ' (BR b) N ρ s := by
  obtain ⟨nr, k⟩ := cmp_ok hs H S I e
  show Wp G A h₀ L m (isTrue (.Compare (l.er ns) [op] [rr.er ns] p) env _) _ _ _ _ _
  rw [arm_isTrue_Compare]
  show Wp G A h₀ L m (eval (l.er ns) env >>= fun a => testChain p a [op] (markedEach [op] [rr.er ns] [eval (rr.er ns) env])) _ _ _ _ _
  rw [marked_er nr]
  refine k (fun a b => standAt p >>= fun _ => operate [a, b] (compareOp op a b) >>= fun c => holding [c] (truthy c)) _ fun va vb h₂ tk₂ N₂ ρ₂ I₂ x₂ c => ?_
  refine Wp.stand (Wp.bind (Wp.oper (Wp.same' (R := fun v _ _ => v = .bool b) I₂ rfl c)) fun u h₃ tk₃ N₃ ρ₃ I₃ x₃ r₃ => ?_)
  subst r₃
  exact Wp.hold (Wp.same' I₃ rfl fun Q E q => wpAny_truthy_bool q)
theorem st_sub {e i : E} {p : Pos} (H : EnvOk G A env h₀ L n) (S : Slots G L env ns m N ρ sl) (I : Inv G h₀ L m N ρ σ s.heap s.toks) (h : eSub r e i sl σ = some (v, σ')) :
    Wp G A h₀ L m (eval ((E.sub e i p).er ns) env) σ' (VR G v) N ρ s := by
  unfold eSub at h
  obtain ⟨x, e1, h⟩ := bind_some h
  obtain ⟨y, e2, h⟩ := bind_some h
  obtain ⟨w, e3, h⟩ := bind_some h
  (first | exact (no h).elim | cases h)
  intro Q E k
  refine Subscript_ ((hs.e H S I e1) _ _ fun a h₁ tk N₁ ρ₁ I₁ x₁ r₁ => ?_)
  refine (hs.e H (S.mono x₁) I₁ e2) _ _ fun b h₂ tk₂ N₂ ρ₂ I₂ x₂ r₂ => ?_
  exact subs_ok (s := { s with heap := h₂, toks := tk₂ }) e3 (r₁.mono x₂).wk r₂.wk I₂ H.X (subscripted_er (hs.NR e2) _ _) Q E fun c h₃ tk₃ N₃ ρ₃ I₃ x₃ r₃ => k c h₃ tk₃ N₃ ρ₃ I₃ ((x₁.trans x₂).trans x₃) r₃
omit hs in
theorem revE_ok {x y mv : MV} {va vb : Value} {value slice : Expr} {ops : List Value} (e : revE σ y x = some (mv, σ')) (ha : RV G N ρ va x) (hb : RV G N ρ vb y) (I : Inv G h₀ L m N ρ σ s.heap s.toks)
    (hsub : subscripted slice false va (.ref s.heap.objs.size) = operate ops (getItem va (.ref s.heap.objs.size))) :
    ∀ (Q : Value → Shared → Prop) (E : Value → Shared → Prop), (∀ a h' tk N' ρ', Inv G h₀ L m N' ρ' σ' h' tk → Ext G N ρ N' ρ' → RV G N' ρ' a mv → Q a { s with heap := h', toks := tk }) →
      wpAny (model G.prog G.w) A (subscriptTail value slice va (.ref s.heap.objs.size)) Q E { s with heap := s.heap.push { cls := .type "slice", data := .fields #[.none, .none, vb] } } := by
  intro Q E k
  unfold revE at e
  split at e
  · rename_i l
    split at e
    · cases hz : lenOk l.length with
      | false => rw [hz] at e; (first | exact (no e).elim | cases e)
      | true =>
        rw [hz] at e; (first | exact (no e).elim | cases e)
        obtain ⟨_, rfl⟩ := ha.inv
        obtain ⟨u, rfl⟩ := hb.inv
        refine toksUp ?_
        have hsz : (tx l).length ≤ sizeLine := by rw [tx_len]; exact lenOk_line hz
        refine tail_any (typeIs_str _ _ _) F.slot_str_getitem.lookup (wpAny_getItem_str_slice (l := none) (u := none) (st := some (Int.negSucc 0, u)) ⟨_, Heap.get?_push_size _ rfl, rfl, rfl⟩ (by rfl) (post_val_or_str ⟨Nat.le_trans (Txt.sliceBy_le (tx l) none none (Int.negSucc 0, u) (by simp)) hsz, fun t' c => fun le => ?_⟩)) hsub
        have F' := I.F.push { cls := .type "slice", data := .fields #[.none, .none, .int (Int.negSucc 0) u] }
        have W' := I.W.pushKeep { cls := .type "slice", data := .fields #[.none, .none, .int (Int.negSucc 0) u] }
        have key : Txt.sliceBy (tx l) none none (Int.negSucc 0, u) = tx l.reverse := by
          apply Str.ext'
          apply Array.toList_inj.mp
          rw [show (Int.negSucc 0 : Int) = -1 from rfl, step_rev_list]
          apply List.ext_getElem
          · simp [Str.length]
          · intro i h1 h2
            simp [Str.length] at h1 h2 ⊢
            rw [List.getElem?_eq_getElem (by omega)]; rfl
        show Q (.str (Txt.sliceBy (tx l) none none (Int.negSucc 0, u)) t') _
        rw [key]
        exact k _ _ c N ρ (I.grown le F' W') (Ext.refl _ _ _) (.str _ _)
    · (first | exact (no e).elim | cases e)
  · (first | exact (no e).elim | cases e)
theorem st_slc {e : E} {lo hi st : Option E} {sp p : Pos} (H : EnvOk G A env h₀ L n) (S : Slots G L env ns m N ρ sl) (I : Inv G h₀ L m N ρ σ s.heap s.toks) (h : eSlc r e lo hi st sl σ = some (v, σ')) :
    Wp G A h₀ L m (eval ((E.slc e lo hi st sp p).er ns) env) σ' (VR G v) N ρ s := by
  cases st with
  | some e2 =>
    cases lo with
    | some _ => (first | exact (no h).elim | cases h)
    | none =>
    cases hi with
    | some _ => (first | exact (no h).elim | cases h)
    | none =>
      unfold eSlc at h
      obtain ⟨x, e1, h⟩ := bind_some h
      obtain ⟨y, e2, h⟩ := bind_some h
      intro Q E k
      refine Subscript_ ((hs.e H S I e1) _ _ fun a h₁ tk N₁ ρ₁ I₁ x₁ r₁ => ?_)
      refine wpAny_Slice (evalPart_none_step (evalPart_none_step ?_))
      refine evalPart_some_step ((hs.e H (S.mono x₁) I₁ e2) _ _ fun b h₂ tk₂ N₂ ρ₂ I₂ x₂ r₂ => ?_)
      exact revE_ok (s := { s with heap := h₂, toks := tk₂ }) h (r₁.mono x₂).wk r₂ I₂ rfl Q E fun d h₄ tk₄ N₄ ρ₄ I₄ x₄ r₄ => k d h₄ tk₄ N₄ ρ₄ I₄ ((x₁.trans x₂).trans x₄) r₄
  | none =>
    unfold eSlc at h
    obtain ⟨x, e1, h⟩ := bind_some h
    obtain ⟨y, e2, h⟩ := bind_some h
    obtain ⟨z, e3, h⟩ := bind_some h
    intro Q E k
    refine Subscript_ ((hs.e H S I e1) _ _ fun a h₁ tk N₁ ρ₁ I₁ x₁ r₁ => ?_)
    refine wpAny_Slice ((hs.eo H (S.mono x₁) I₁ e2) _ _ fun b h₂ tk₂ N₂ ρ₂ I₂ x₂ r₂ => ?_)
    refine (hs.eo H (S.mono (x₁.trans x₂)) I₂ e3) _ _ fun c h₃ tk₃ N₃ ρ₃ I₃ x₃ r₃ => ?_
    refine evalPart_none_step ?_
    exact cutE_ok (lo := none) (hi := none) (s := { s with heap := h₃, toks := tk₃ }) h (r₁.mono (x₂.trans x₃)).wk (r₂.mono x₃) r₃ I₃ H.bls rfl Q E fun d h₄ tk₄ N₄ ρ₄ I₄ x₄ r₄ => k d h₄ tk₄ N₄ ρ₄ I₄ (((x₁.trans x₂).trans x₃).trans x₄) r₄
theorem st_bin {l rr : E} {op : Operator} {p : Pos} (H : EnvOk G A env h₀ L n) (S : Slots G L env ns m N ρ sl) (I : Inv G h₀ L m N ρ σ s.heap s.toks) (h : eBin r l op rr sl σ = some (v, σ')) :
    Wp G A h₀ L m (eval ((E.bin l op rr p).er ns) env) σ' (VR G v) N ρ s := by
  unfold eBin at h
  obtain ⟨x, e1, h⟩ := bind_some h
  obtain ⟨y, e2, h⟩ := bind_some h
  show Wp G A h₀ L m (eval (.BinOp (l.er ns) op (rr.er ns) p) env) _ _ _ _ _
  rw [arm_eval_BinOp]
  refine (hs.e H S I e1).bind fun a h₁ tk N₁ ρ₁ I₁ x₁ r₁ => ?_
  refine ((hs.e H (S.mono x₁) I₁ e2).hold).bind fun b h₂ tk₂ N₂ ρ₂ I₂ x₂ r₂ => ?_
  exact Wp.stand (Wp.oper (binop_ok h (r₁.mono x₂).wk r₂.wk I₂ H.lim))
theorem st_neg {e : E} {p : Pos} (H : EnvOk G A env h₀ L n) (S : Slots G L env ns m N ρ sl) (I : Inv G h₀ L m N ρ σ s.heap s.toks) (h : (r.e e sl σ).bind negE = some (v, σ')) :
    Wp G A h₀ L m (eval ((E.neg e p).er ns) env) σ' (VR G v) N ρ s := by
  obtain ⟨x, e1, h⟩ := bind_some h
  obtain ⟨w, σ₁⟩ := x
  cases w <;> try ((first | exact (no h).elim | cases h); done)
  (first | exact (no h).elim | cases h)
  show Wp G A h₀ L m (eval (.UnaryOp .USub (e.er ns) p) env) _ _ _ _ _
  rw [arm_eval_UnaryOp]
  refine (hs.e H S I e1).bind fun a h₁ tk N₁ ρ₁ I₁ x₁ r₁ => ?_
  exact Wp.stand (Wp.hold (neg_ok r₁ I₁))
theorem st_ite {t b o : E} {p : Pos} (H : EnvOk G A env h₀ L n) (S : Slots G L env ns m N ρ sl) (I : Inv G h₀ L m N ρ σ s.heap s.toks) (h : ((r.t t sl σ).bind fun x => cond x.1 (r.e b sl x.2) (r.e o sl x.2)) = some (v, σ')) :
    Wp G A h₀ L m (eval ((E.ite t b o p).er ns) env) σ' (VR G v) N ρ s := by
  obtain ⟨x, e1, h⟩ := bind_some h
  obtain ⟨c, σ₁⟩ := x
  show Wp G A h₀ L m (eval (.IfExp (t.er ns) (b.er ns) (o.er ns) p) env) _ _ _ _ _
  rw [arm_eval_IfExp]
  refine (hs.t H S I e1).bind fun a h₁ tk N₁ ρ₁ I₁ x₁ r₁ => ?_
  rw [show a = c from r₁]
  cases c with
  | true => exact hs.e H (S.mono x₁) I₁ h
  | false => exact hs.e H (S.mono x₁) I₁ h
theorem st_tup {es : List E} {k : Nat} {p : Pos} (H : EnvOk G A env h₀ L n) (S : Slots G L env ns m N ρ sl) (I : Inv G h₀ L m N ρ σ s.heap s.toks) (h : ((r.es es sl σ).bind fun x => cond (lenOk x.1.length) (some (MV.tup (x.1.map MV.wk), x.2)) none) = some (v, σ')) :
    Wp G A h₀ L m (eval ((E.tup es k p).er ns) env) σ' (VR G v) N ρ s := by
  obtain ⟨x, e1, h⟩ := bind_some h
  obtain ⟨hz, h⟩ := cond_some h
  (first | exact (no h).elim | cases h)
  show Wp G A h₀ L m (eval (.Tuple (E.ers ns es) k p) env) _ _ _ _ _
  rw [arm_eval_Tuple]
  refine Wp.stand ((hs.es H S I e1).bind fun vs h₁ tk N₁ ρ₁ I₁ x₁ r₁ => ?_)
  intro Q E q
  refine newTuple_N (s := { s with heap := h₁, toks := tk }) I₁.F I₁.W (fun h' F' W' => ?_) (by rw [r₁.length]; exact lenOk_line hz)
  have fr := I₁.fresh (Nat.le_refl h₁.objs.size)
  obtain ⟨J, x⟩ := I₁.more (Nat.le_refl _) (new := [(h₁.objs.size, tupO vs 0)]) F' W' (by simp) (by simpa using fr)
  exact q _ h' tk _ ρ₁ J x (.tup (n := 0) (List.mem_cons_self ..) (I₁.off fr).1 (r₁.mono x).wk)
theorem st_list {es : List E} {p : Pos} (H : EnvOk G A env h₀ L n) (S : Slots G L env ns m N ρ sl) (I : Inv G h₀ L m N ρ σ s.heap s.toks) (h : ((r.es es sl σ).bind fun x => newL x.2 (x.1.map MV.wk)) = some (v, σ')) :
    Wp G A h₀ L m (eval ((E.list es p).er ns) env) σ' (VR G v) N ρ s := by
  obtain ⟨x, e1, h⟩ := bind_some h
  show Wp G A h₀ L m (eval (.List (E.ers ns es) p) env) _ _ _ _ _
  rw [arm_eval_List]
  refine Wp.stand ((hs.es H S I e1).bind fun vs h₁ tk N₁ ρ₁ I₁ x₁ r₁ => ?_)
  refine newL_ok (s := { s with heap := h₁, toks := tk }) h r₁.wk I₁ fun hz Q E q => ?_
  exact newList_K I₁.F I₁.W (fun D h' F' W' hlt => q D h' tk F' W' hlt) (by rw [sizeLine_eq]; omega)
omit hs in
theorem st_dict {p : Pos} (H : EnvOk G A env h₀ L n) (I : Inv G h₀ L m N ρ σ s.heap s.toks) :
    Wp G A h₀ L m (eval ((E.dict0 p).er ns) env) (σ ++ [.dict []]) (VR G (.ref σ.length)) N ρ s := by
  intro Q E q
  refine newDict_K I.F I.W H.lim fun d h' o F' W' hlt lo hd _ _ _ => ?_
  obtain ⟨J, x, rv⟩ := alloc1 (mo := .dict []) I (Nat.le_refl _) F' W' (.lt hlt) (fun ρ' x => .dict (es := []) (List.mem_cons_self ..) hd lo .nil)
  exact q _ h' s.toks _ _ J x rv
theorem st_attr (hC : ClsAll G CT) {e : E} {a : Nat} {p : Pos} (H : EnvOk G A env h₀ L n) (S : Slots G L env ns m N ρ sl) (I : Inv G h₀ L m N ρ σ s.heap s.toks) (h : cond (okBase e) ((r.e e sl σ).bind fun x => attrE CT x.2 a x.1) none = some (v, σ')) :
    Wp G A h₀ L m (eval ((E.attr e a p).er ns) env) σ' (VR G v) N ρ s := by
  obtain ⟨hb, h⟩ := cond_some h
  obtain ⟨x, e1, h⟩ := bind_some h
  show Wp G A h₀ L m (eval (.Attribute (e.er ns) (an a) p) env) _ _ _ _ _
  rw [arm_eval_Attribute, okBase_er hb]
  refine (hs.e H S I e1).bind fun b h₁ tk N₁ ρ₁ I₁ x₁ r₁ => ?_
  refine Wp.stand (Wp.bind (Wp.hold (attrE_ok (s := { s with heap := h₁, toks := tk }) hC h r₁ I₁ H.X)) fun c h₂ tk₂ N₂ ρ₂ I₂ x₂ r₂ => ?_)
  exact fun Q E q => wpAny_bind (wpAny_letTemporaryGo (wpAny_pure (q c h₂ tk₂ N₂ ρ₂ I₂ (Ext.refl _ _ _) r₂)))
end
end Mine

open PySem PySem.W PyProof.Rows PySem.Calls
namespace Mine
set_option autoImplicit false
set_option backward.match.sparseCases false
set_option linter.unusedVariables false
set_option maxRecDepth 20000

section
variable {G : St} {CT : List Cl} {GV : List (Option MV)} {r : Rec} {n : Nat} {A : Around} {env : Env} {h₀ : Heap} {L : Addr} {ns : Names} {m : Str → Option Value} {N : Led} {ρ : Rho} {s : Shared} {sl sl' : List Slot} {σ σ' : List MO} {v : MV}

theorem evalArgs_spl {M : Model} {E : Value → Shared → Prop} {f : Value} {args : List (Bool × Sem Value)} {Q : Args → Shared → Prop} (hp : args.any (·.1) = false) (h : wpAny M A (spliced args) (fun vs s' => Q ⟨vs, []⟩ s') E s) : wpAny M A (evalArgs f true args []) Q E s := by
  cases args with
  | nil =>
    unfold evalArgs
    show wpAny M A (spliced [] >>= _) Q E s
    refine wpAny_bind (wpAny_mono h (fun vs s' h' => wpAny_bind (wpAny_pure (wpAny_holding ?_))) fun _ _ x => x)
    exact wpAny_bind (wpAny_pure (wpAny_bind (wpAny_pure (wpAny_pure h'))))
  | cons a rest =>
    obtain ⟨b, x⟩ := a
    have : b = false := by
      rw [List.any_cons] at hp
      exact (Bool.or_eq_false_iff.mp hp).1
    subst this
    exact evalArgs_plain h
theorem machine_looks (f : Value) (h : Heap) (hf : ∀ a, f ≠ .ref a) : ∃ k, (k = Keeper.frame ∨ k = Keeper.machine ∨ k = Keeper.boundFrame) ∧ Looks (model G.prog G.w) h (keeperOf f) k := by
  refine ⟨.machine, .inr (.inl rfl), Looks.of_pure ?_⟩
  cases f <;> first | rfl | exact absurd rfl (hf _)
/-- a call, its callee and its arguments being at hand -/
theorem callWith_ok {args : List (Bool × Sem Value)} {p : Pos} {f : Value} {first : List Value} {as : List MV} {R : Value → Led → Rho → Prop} {σ₁ : List MO} (hp : args.any (·.1) = false) (ha : Wp G A h₀ L m (spliced args) σ₁ (VRs G as) N ρ s)
    (hk : ∀ (h : Heap) (tk : Nat) N' ρ', Inv G h₀ L m N' ρ' σ₁ h tk → Ext G N ρ N' ρ' → ∃ k, (k = Keeper.frame ∨ k = Keeper.machine ∨ k = Keeper.boundFrame) ∧ Looks (model G.prog G.w) h (keeperOf f) k)
    (hc : ∀ vs (h : Heap) (tk : Nat) N' ρ', Inv G h₀ L m N' ρ' σ₁ h tk → Ext G N ρ N' ρ' → RVs G N' ρ' vs as → Wp G A h₀ L m (call f (first ++ vs)) σ' R N' ρ' { s with heap := h, toks := tk }) :
    Wp G A h₀ L m (callWith p f first args []) σ' R N ρ s := by
  intro Q E q
  refine callWith_of (P := fun h => ∃ k, (k = Keeper.frame ∨ k = Keeper.machine ∨ k = Keeper.boundFrame) ∧ Looks (model G.prog G.w) h (keeperOf f) k) (by simpa using hp) (fun _ h => h) ?_
  refine evalArgs_spl hp (ha _ _ fun vs h₁ tk N₁ ρ₁ I₁ x₁ r₁ => ⟨hk h₁ tk N₁ ρ₁ I₁ x₁, ?_⟩)
  exact hc vs h₁ tk N₁ ρ₁ I₁ x₁ r₁ Q E fun u h₂ tk₂ N₂ ρ₂ I₂ x₂ r₂ => q u h₂ tk₂ N₂ ρ₂ I₂ (x₁.trans x₂) r₂

variable (hs : Sound G r n)
include hs
theorem call_ok {f : MV} {as : List MV} {vf : Value} {vs : List Value} (H : EnvOk G A env h₀ L n) (I : Inv G h₀ L m N ρ σ s.heap s.toks) (hf : RV G N ρ vf f) (ha : RVs G N ρ vs as) (e : r.call f as σ = some (v, σ')) : Wp G A h₀ L m (call vf vs) σ' (VR G v) N ρ s :=
  hs.call H I hf ha e
theorem st_call {i : Nat} {np p : Pos} {as : List E} (H : EnvOk G A env h₀ L n) (S : Slots G L env ns m N ρ sl) (I : Inv G h₀ L m N ρ σ s.heap s.toks) (h : eCall r i as sl σ = some (v, σ')) :
    Wp G A h₀ L m (eval ((E.call i np as p).er ns) env) σ' (VR G v) N ρ s := by
  unfold eCall at h
  obtain ⟨x, e1, h⟩ := bind_some h
  obtain ⟨y, e2, h⟩ := bind_some h
  show Wp G A h₀ L m (eval (.Name (ns.at i) np) env >>= fun f => callWith p f [] (backTo p (starEach (E.ers ns as) env)) []) _ _ _ _ _
  refine (name_ok e1 H S I).bind fun f h₁ tk N₁ ρ₁ I₁ x₁ r₁ => ?_
  have ha := hs.es (s := { s with heap := h₁, toks := tk }) (pos := p) H (S.mono x₁) I₁ e2
  have hp := hs.esn (env := env) (ns := ns) (pos := p) e2
  refine callWith_ok hp ha (fun h₂ tk₂ N₂ ρ₂ I₂ x₂ => hs.keep (s := { s with heap := h₂, toks := tk₂ }) H I₂ (r₁.mono x₂) h) fun vs h₂ tk₂ N₂ ρ₂ I₂ x₂ r₂ => ?_
  exact call_ok hs H I₂ (r₁.mono x₂) r₂.wk h
theorem st_meth (hC : ClsAll G CT) {o : E} {a : Nat} {as : List E} {ap p : Pos} (hl : ap.endLine = p.line) (H : EnvOk G A env h₀ L n) (S : Slots G L env ns m N ρ sl) (I : Inv G h₀ L m N ρ σ s.heap s.toks)
    (h : cond (okBase o && Nat.ble as.length 20) (eMeth CT r o a as sl σ) none = some (v, σ')) :
    Wp G A h₀ L m (eval ((E.meth o a as ap p hl).er ns) env) σ' (VR G v) N ρ s := by
  obtain ⟨hb, h⟩ := cond_some h
  obtain ⟨hb, hz⟩ := Bool.and_eq_true_iff.mp hb
  have hz := Nat.le_of_ble_eq_true hz
  unfold eMeth at h
  obtain ⟨x, e1, h⟩ := bind_some h
  obtain ⟨sel, e2, h⟩ := bind_some h
  obtain ⟨y, e3, h⟩ := bind_some h
  show Wp G A h₀ L m (eval (.Call (.Attribute (o.er ns) (an a) ap) (E.ers ns as) [] p) env) _ _ _ _ _
  rw [arm_eval_Call, okBase_er hb]
  refine (hs.e H S I e1).bind fun ov h₁ tk N₁ ρ₁ I₁ x₁ r₁ => ?_
  refine Wp.stand ?_
  have hp := hs.esn (env := env) (ns := ns) (pos := p) e3
  have hlen : ∀ es : List E, (E.ers ns es).length = es.length := fun es => by
    induction es with
    | nil => rfl
    | cons e es ih => show (E.ers ns es).length + 1 = _; rw [ih]; rfl
  have few : methodCallForm ((E.ers ns as).length + ([] : List Keyword).length) (backTo p (starEach (E.ers ns as) env)) (backToKw p (keywordEach [] env)) = true := by
    unfold methodCallForm
    have h1 : (backTo p (starEach (E.ers ns as) env)).all (fun x => !x.1) = true := by
      rw [List.all_eq_not_any_not]
      simp only [Bool.not_not]
      rw [hp]; rfl
    rw [h1, hlen]
    simp [backToKw, keywordEach]
    omega
  show Wp G A h₀ L m (methodCall (o.er ns) (an a) ap p env ov _ _ _) _ _ _ _ _
  unfold methodCall
  rw [few]
  obtain ⟨f, hf, hg⟩ := mSel_ok (A := A) (s := { s with heap := h₁, toks := tk }) (pl := do return (← importBound (o.er ns) env).getD true) hC e2 r₁.wk I₁ H.X
  refine Wp.bind (R := fun g _ _ => g = f) (Wp.hold (Wp.same' I₁ rfl hg)) fun g h₂ tk₂ N₂ ρ₂ I₂ x₂ r₂ => ?_
  subst r₂
  have pos : methodCallPos true (o.er ns) env ap p = pure p := by
    unfold methodCallPos
    rw [if_pos (by simp [hl])]
  have key : ∀ (f : Value), g = (f, [ov]) → (∀ (h : Heap) (tk : Nat) N' ρ', Inv G h₀ L m N' ρ' y.2 h tk → Ext G N₁ ρ₁ N' ρ' → ∃ k, (k = Keeper.frame ∨ k = Keeper.machine ∨ k = Keeper.boundFrame) ∧ Looks (model G.prog G.w) h (keeperOf f) k) →
      (∀ vs (h : Heap) (tk : Nat) N' ρ', Inv G h₀ L m N' ρ' y.2 h tk → Ext G N₁ ρ₁ N' ρ' → RVs G N' ρ' vs y.1 → Wp G A h₀ L m (call f ([ov] ++ vs)) σ' (VR G v) N' ρ' { s with heap := h, toks := tk }) →
      Wp G A h₀ L m (methodCallPos true (o.er ns) env ap p >>= fun cp => callWith cp g.1 g.2 (backTo p (starEach (E.ers ns as) env)) (backToKw p (keywordEach [] env))) σ' (VR G v) N₂ ρ₂ { s with heap := h₂, toks := tk₂ } := by
    intro f e hk hc
    subst e
    rw [pos]
    refine Wp.bind (R := fun c _ _ => c = p) (Wp.pure I₂ rfl) fun cp h₃ tk₃ N₃ ρ₃ I₃ x₃ r₃ => ?_
    subst r₃
    have ha' := hs.es (s := { s with heap := h₃, toks := tk₃ }) (pos := cp) H (S.mono (x₁.trans (x₂.trans x₃))) I₃ e3
    exact callWith_ok hp ha' (fun h₄ tk₄ N₄ ρ₄ I₄ x₄ => hk h₄ tk₄ N₄ ρ₄ I₄ ((x₂.trans x₃).trans x₄)) fun vs h₄ tk₄ N₄ ρ₄ I₄ x₄ r₄ => hc vs h₄ tk₄ N₄ ρ₄ I₄ ((x₂.trans x₃).trans x₄) r₄
  cases sel with
  | list =>
    obtain ⟨q1, q2⟩ := hf
    exact key _ q1 (fun h tk N' ρ' I' x' => machine_looks _ h (by simp)) fun vs h₄ tk₄ N₄ ρ₄ I₄ x₄ r₄ => apL_ok q2 h (r₁.mono x₄).wk r₄.wk I₄
  | str =>
    obtain ⟨q1, q2⟩ := hf
    exact key _ q1 (fun h tk N' ρ' I' x' => machine_looks _ h (by simp)) fun vs h₄ tk₄ N₄ ρ₄ I₄ x₄ r₄ => apStr_ok q2 h (r₁.mono x₄).wk r₄ I₄
  | own k =>
    obtain ⟨q1, q2⟩ := hf
    refine key _ q1 (fun h' tk N' ρ' I' x' => hs.keep (s := { s with heap := h', toks := tk }) H I' (.fn k) h) fun vs h₄ tk₄ N₄ ρ₄ I₄ x₄ r₄ => ?_
    exact call_ok hs H I₄ (.fn k) (.cons (r₁.mono x₄).wk r₄.wk) h
omit hs in
theorem star_er {e : E} {es : List E} (hn : NR e) : starEach (E.ers ns (e :: es)) env = (false, eval (e.er ns) env) :: starEach (E.ers ns es) env := by
  show starEach (e.er ns :: E.ers ns es) env = _
  cases e <;> first | exact absurd rfl (hn _) | rfl
/-- the arguments of a call -/
theorem st_es {es : List E} {vs : List MV} {pos : Pos} (H : EnvOk G A env h₀ L n) (S : Slots G L env ns m N ρ sl) (I : Inv G h₀ L m N ρ σ s.heap s.toks) (h : stepEs r es sl σ = some (vs, σ')) :
    Wp G A h₀ L m (spliced (backTo pos (starEach (E.ers ns es) env))) σ' (VRs G vs) N ρ s := by
  cases es with
  | nil => (first | exact (no h).elim | cases h); exact Wp.same' I .nil fun Q E q => spliced_nil q
  | cons e es =>
    unfold stepEs at h
    obtain ⟨x, e1, h⟩ := bind_some h
    obtain ⟨y, e2, h⟩ := bind_some h
    (first | exact (no h).elim | cases h)
    rw [star_er (hs.NR e1)]
    show Wp G A h₀ L m (spliced ((false, eval (e.er ns) env) :: backTo pos (starEach (E.ers ns es) env))) _ _ _ _ _
    exact fun Q E q => spliced_cons ((hs.e H S I e1) _ _ fun a h₁ tk N₁ ρ₁ I₁ x₁ r₁ =>
      (hs.es H (S.mono x₁) I₁ e2) _ _ fun us h₂ tk₂ N₂ ρ₂ I₂ x₂ r₂ => q _ h₂ tk₂ N₂ ρ₂ I₂ (x₁.trans x₂) (.cons (r₁.mono x₂) r₂))
theorem st_esn {es : List E} {y : List MV × List MO} {pos : Pos} (h : stepEs r es sl σ = some y) : (backTo pos (starEach (E.ers ns es) env)).any (·.1) = false := by
  cases es with
  | nil => rfl
  | cons e es =>
    unfold stepEs at h
    obtain ⟨x, e1, h⟩ := bind_some h
    obtain ⟨y, e2, h⟩ := bind_some h
    rw [star_er (hs.NR e1)]
    show (false || (backTo pos (starEach (E.ers ns es) env)).any (·.1)) = false
    rw [hs.esn e2]; rfl
theorem st_eo {e : Option E} (H : EnvOk G A env h₀ L n) (S : Slots G L env ns m N ρ sl) (I : Inv G h₀ L m N ρ σ s.heap s.toks) (h : stepEo r e sl σ = some (v, σ')) :
    Wp G A h₀ L m (evalPart (E.ero ns e) env) σ' (VR G v) N ρ s := by
  cases e with
  | none => (first | exact (no h).elim | cases h); exact Wp.same' I .none fun Q E q => evalPart_none_step q
  | some e => exact fun Q E q => evalPart_some_step (hs.e H S I h Q E q)
/-! ### tests -/
theorem st_t {e : E} {b : Bool} (H : EnvOk G A env h₀ L n) (S : Slots G L env ns m N ρ sl) (I : Inv G h₀ L m N ρ σ s.heap s.toks) (h : stepT r e sl σ = some (b, σ')) :
    Wp G A h₀ L m (isTrue (e.er ns) env (eval (e.er ns) env)) σ' (BR b) N ρ s := by
  have gen : ∀ (p : Pos), ((r.e e sl σ).bind truth = some (b, σ')) → Wp G A h₀ L m (eval (e.er ns) env >>= fun v => standAt p >>= fun _ => holding [v] (truthy v)) σ' (BR b) N ρ s := fun p h => by
    obtain ⟨x, e1, h⟩ := bind_some h
    obtain ⟨w, σ₁⟩ := x
    cases w <;> try ((first | exact (no h).elim | cases h); done)
    (first | exact (no h).elim | cases h)
    refine (hs.e H S I e1).bind fun a h₁ tk N₁ ρ₁ I₁ x₁ r₁ => ?_
    cases r₁
    exact Wp.stand (Wp.hold (Wp.same' I₁ rfl fun Q E q => wpAny_truthy_bool q))
  cases e with
  | not e p =>
    unfold stepT at h
    obtain ⟨x, e1, h⟩ := bind_some h
    (first | exact (no h).elim | cases h)
    show Wp G A h₀ L m (isTrue (.UnaryOp .Not (e.er ns) p) env _) _ _ _ _ _
    rw [arm_isTrue_UnaryOp]
    refine (hs.t H S I e1).bind fun a h₁ tk N₁ ρ₁ I₁ x₁ r₁ => ?_
    rw [show a = x.1 from r₁]
    exact Wp.pure I₁ rfl
  | boo op es p =>
    show Wp G A h₀ L m (isTrue (.BoolOp op (E.ers ns es) p) env _) _ _ _ _ _
    rw [arm_isTrue_BoolOp]
    exact hs.ts H S I h
  | cmp l op rr p => exact st_t_cmp hs H S I h
  | ite _ _ _ _ => (first | exact (no h).elim | cases h)
  | name i p => exact gen _ h
  | cst c k p => exact gen _ h
  | tup es k p => exact gen _ h
  | list es p => exact gen _ h
  | dict0 p => exact gen _ h
  | sub e i p => exact gen _ h
  | slc e lo hi st sp p => exact gen _ h
  | attr e a p => exact gen _ h
  | bin l op r p => exact gen _ h
  | neg e p => exact gen _ h
  | call i np as p => exact gen _ h
  | meth o a as ap p hl => exact gen _ h
  | comp elt ct it ifs u w jn cs sc hh p => exact gen _ h
  | lam j k p => exact gen _ h
  | raw e => obtain ⟨x, e1, _⟩ := bind_some h; rw [hs.nr] at e1; cases e1
theorem st_ts {op : BoolOp} {es : List E} {b : Bool} (H : EnvOk G A env h₀ L n) (S : Slots G L env ns m N ρ sl) (I : Inv G h₀ L m N ρ σ s.heap s.toks) (h : stepTs r op es sl σ = some (b, σ')) :
    Wp G A h₀ L m (allTrue op (E.ers ns es) env) σ' (BR b) N ρ s := by
  cases es with
  | nil =>
    (first | exact (no h).elim | cases h)
    show Wp G A h₀ L m (allTrue op [] env) _ _ _ _ _
    rw [arm_allTrue_nil]
    exact Wp.pure I (by cases op <;> rfl)
  | cons e es =>
    unfold stepTs at h
    obtain ⟨x, e1, h⟩ := bind_some h
    show Wp G A h₀ L m (allTrue op (e.er ns :: E.ers ns es) env) _ _ _ _ _
    rw [arm_allTrue_cons]
    refine (hs.t H S I e1).bind fun a h₁ tk N₁ ρ₁ I₁ x₁ r₁ => ?_
    rw [show a = x.1 from r₁]
    obtain ⟨c, σ₁⟩ := x
    cases op <;> cases c
    · (first | exact (no h).elim | cases h); exact Wp.pure I₁ rfl
    · exact hs.ts H (S.mono x₁) I₁ h
    · exact hs.ts H (S.mono x₁) I₁ h
    · (first | exact (no h).elim | cases h); exact Wp.pure I₁ rfl
omit hs in
theorem tests_false {ifs : List Expr} {M : Model} {E : Value → Shared → Prop} {Q : Bool → Shared → Prop} (h : Q false s) :
    wpAny M A (forIn ifs false fun c r => if r = true then do let ok ← isTrue c env (eval c env); pure (ForInStep.yield ok) else pure (ForInStep.yield r)) Q E s := by
  induction ifs with
  | nil => exact wpAny_pure h
  | cons c cs ih =>
    simp only [List.forIn_cons, Bool.false_eq_true, if_false]
    exact wpAny_bind (wpAny_pure ih)
theorem st_tf {es : List E} {b : Bool} (H : EnvOk G A env h₀ L n) (S : Slots G L env ns m N ρ sl) (I : Inv G h₀ L m N ρ σ s.heap s.toks) (h : stepTs r .And es sl σ = some (b, σ')) :
    Wp G A h₀ L m (testsOf (E.ers ns es) env) σ' (BR b) N ρ s := by
  cases es with
  | nil =>
    (first | exact (no h).elim | cases h)
    exact Wp.same' I rfl fun Q E q => wpAny_tests_nil q
  | cons e es =>
    unfold stepTs at h
    obtain ⟨x, e1, h⟩ := bind_some h
    intro Q E' q
    show wpAny _ A (forIn (e.er ns :: E.ers ns es) true _) _ _ _
    simp only [List.forIn_cons, if_true]
    refine wpAny_bind (wpAny_bind ((hs.t H S I e1) _ _ fun a h₁ tk N₁ ρ₁ I₁ x₁ r₁ => wpAny_pure ?_))
    rw [show a = x.1 from r₁]
    obtain ⟨c, σ₁⟩ := x
    cases c
    · (first | exact (no h).elim | cases h); exact tests_false (q false h₁ tk N₁ ρ₁ I₁ x₁ rfl)
    · exact (hs.tf H (S.mono x₁) I₁ h) _ _ fun d h₂ tk₂ N₂ ρ₂ I₂ x₂ r₂ => q d h₂ tk₂ N₂ ρ₂ I₂ (x₁.trans x₂) r₂
end
end Mine

open PySem PySem.W PyProof.Rows PySem.Calls
namespace Mine
set_option autoImplicit false
set_option backward.match.sparseCases false
set_option linter.unusedVariables false
set_option maxRecDepth 20000

section
variable {G : St} {CT : List Cl} {GV : List (Option MV)} {r : Rec} {n : Nat} {A : Around} {env : Env} {h₀ : Heap} {L : Addr} {ns : Names} {m : Str → Option Value} {N : Led} {ρ : Rho} {s : Shared} {sl sl' : List Slot} {σ σ' : List MO} {v : MV}

theorem Slots.monoL {N' : Led} {ρ' : Rho} (S : Slots G L env ns m N ρ sl) (hL : env.locals = L) (I : Inv G h₀ L m N ρ σ s.heap s.toks) (x : Tr G N ρ N' ρ') : Slots G L env ns m N' ρ' sl :=
  ⟨S.len, S.nd, S.dbg, fun i a e => by
    cases S.ok i a e with
    | locS h0 h1 h2 h3 => exact .locS h0 h1 h2 (h3.monoT x)
    | locN h0 h1 => exact .locN h0 h1
    | comS h1 h2 h3 h4 h5 h6 => exact absurd hL (I.W _ h2).2.1
    | comN h1 h2 => exact absurd hL h1
    | glb h1 h2 => exact .glb h1 h2
    | cel h1 h2 h3 => exact .cel h1 h2 (x.get h3)
    | fre h1 h2 h3 => exact .fre h1 h2 (x.get h3)
    | nst h => exact .nst h
    | nid h => exact .nid h
    | unk => exact .unk⟩
theorem assignEach_T (t : T) (ts : List T) : assignEach (T.ers ns (t :: ts)) env = (false, assign (t.er ns) env) :: assignEach (T.ers ns ts) env := by
  show assignEach (t.er ns :: T.ers ns ts) env = _
  cases t <;> rfl
theorem assignEach_len : ∀ ts : List T, (assignEach (T.ers ns ts) env).length = ts.length
  | [] => rfl
  | t :: ts => by rw [assignEach_T, List.length_cons, assignEach_len ts, List.length_cons]
theorem assignEach_star : ∀ ts : List T, (assignEach (T.ers ns ts) env).findIdx? (·.1) = none
  | [] => rfl
  | t :: ts => by rw [assignEach_T, List.findIdx?_cons, assignEach_star ts]; rfl
variable (hs : Sound G r n)
include hs
theorem st_as {ts : List T} {us : List Value} {vs : List MV} (H : EnvOk G A env h₀ L n) (hL : env.locals = L) (S : Slots G L env ns m N ρ sl) (I : Inv G h₀ L m N ρ σ s.heap s.toks) (hu : RVs G N ρ us vs) (h : stepAs r ts vs sl σ = some (sl', σ')) :
    WpS G A h₀ L env ns m (assignInOrder ((assignEach (T.ers ns ts) env).map (·.2)) us) sl' σ' UR N ρ s := by
  cases ts with
  | nil =>
    cases vs with
    | cons _ _ => (first | exact (no h).elim | cases h)
    | nil =>
      (first | obtain ⟨_, rfl⟩ := hu.inv | obtain rfl := hu.inv | cases hu); (first | exact (no h).elim | cases h)
      exact WpS.of (Wp.same' (R := UR) I trivial fun Q E q => assignInOrder_nil q) S
  | cons t ts =>
    cases vs with
    | nil => (first | exact (no h).elim | cases h)
    | cons v vs =>
      have hh := hu.uncons; clear hu; obtain ⟨_, _, rfl, hv, hu⟩ := hh
      unfold stepAs at h
      obtain ⟨x, e1, h⟩ := bind_some h
      rw [assignEach_T]
      intro Q E q
      refine assignInOrder_cons ((hs.a H hL S I hv e1) _ _ fun _ h₁ tk N₁ ρ₁ m₁ I₁ x₁ S₁ _ => ?_)
      exact (hs.as H hL S₁ I₁ (hu.mono x₁) h) _ _ fun _ h₂ tk₂ N₂ ρ₂ m₂ I₂ x₂ S₂ _ => q _ h₂ tk₂ N₂ ρ₂ m₂ I₂ (x₁.trans x₂) S₂ trivial
end

section
variable {G : St} {CT : List Cl} {GV : List (Option MV)} {r : Rec} {n : Nat} {A : Around} {env : Env} {h₀ : Heap} {L : Addr} {ns : Names} {m : Str → Option Value} {N : Led} {ρ : Rho} {s : Shared} {sl sl' : List Slot} {σ σ' : List MO} {v : MV}
variable (hs : Sound G r n)
include hs
/-- the length told by a run of assignments is the one there is -/
theorem st_a (hC : ClsAll G CT) {t : T} {u : Value} (H : EnvOk G A env h₀ L n) (hL : env.locals = L) (S : Slots G L env ns m N ρ sl) (I : Inv G h₀ L m N ρ σ s.heap s.toks) (hu : RV G N ρ u v) (h : stepA CT r t v sl σ = some (sl', σ')) :
    WpS G A h₀ L env ns m (assign (t.er ns) env u) sl' σ' UR N ρ s := by
  cases t with
  | name i p =>
    show WpS G A h₀ L env ns m (assign (.Name (ns.at i) p) env u) _ _ _ _ _ _
    rw [arm_assign_Name]
    exact WpS.stand fun Q E q => wpAny_bindName (store_ok h H S hu I hL Q E q)
  | tup ts k p =>
    show WpS G A h₀ L env ns m (assign (.Tuple (T.ers ns ts) k p) env u) _ _ _ _ _ _
    unfold stepA at h
    replace h : asTup r ts sl σ v = some (sl', σ') := h
    unfold asTup at h
    cases v <;> try ((first | exact (no h).elim | cases h); done)
    rename_i vs
    obtain ⟨hz, h⟩ := cond_some h
    have hz := Nat.eq_of_beq_eq_true hz
    obtain ⟨t, ws, rfl, ht, hr⟩ := rv_tup hu I H.X
    intro Q E q
    refine unpackN_ I.F I.W ht H.hd (by rw [assignEach_len, hz, ← hr.length]; simp) (assignEach_star ts) fun h' F' W' => ?_
    have I' := I.grown (Nat.le_refl _) F' W'
    have := hs.as (s := { s with heap := h' }) H hL S I' hr h
    exact this Q E fun a h₁ tk N₁ ρ₁ m₁ I₁ x₁ S₁ r₁ => q a h₁ tk N₁ ρ₁ m₁ I₁ x₁ S₁ r₁
  | attr o a p =>
    unfold stepA at h
    obtain ⟨x, e1, h⟩ := bind_some h
    obtain ⟨w, e2, h⟩ := bind_some h
    (first | exact (no h).elim | cases h)
    show WpS G A h₀ L env ns m (assign (.Attribute (o.er ns) (an a) p) env u) _ _ _ _ _ _
    rw [arm_assign_Attribute]
    refine WpS.bind (hs.e H S I e1).hold fun b h₁ tk N₁ ρ₁ I₁ x₁ r₁ => ?_
    refine WpS.stand (WpS.bind (Wp.hold (putA_ok (s := { s with heap := h₁, toks := tk }) hC e2 r₁ (hu.mono x₁).wk I₁ H.X)) fun _ h₂ tk₂ N₂ ρ₂ I₂ x₂ _ => ?_)
    exact fun Q E q => wpAny_release (q () h₂ tk₂ N₂ ρ₂ m I₂ (Ext.refl _ _ _) (S.mono (x₁.trans x₂)) trivial)
  | sub o i p =>
    unfold stepA at h
    obtain ⟨x, e1, h⟩ := bind_some h
    obtain ⟨y, e2, h⟩ := bind_some h
    obtain ⟨w, e3, h⟩ := bind_some h
    (first | exact (no h).elim | cases h)
    show WpS G A h₀ L env ns m (assign (.Subscript (o.er ns) (i.er ns) p) env u) _ _ _ _ _ _
    rw [arm_assign_Subscript]
    refine WpS.bind (hs.e H S I e1).hold fun b h₁ tk N₁ ρ₁ I₁ x₁ r₁ => ?_
    refine WpS.bind (hs.e H (S.mono x₁) I₁ e2).hold fun c h₂ tk₂ N₂ ρ₂ I₂ x₂ r₂ => ?_
    refine WpS.stand (WpS.bind (Wp.hold (putI_ok (s := { s with heap := h₂, toks := tk₂ }) e3 (r₁.mono x₂) r₂.wk (hu.mono (x₁.trans x₂)).wk I₂)) fun _ h₃ tk₃ N₃ ρ₃ I₃ x₃ _ => ?_)
    exact fun Q E q => wpAny_release (q () h₃ tk₃ N₃ ρ₃ m I₃ (Ext.refl _ _ _) (S.mono ((x₁.trans x₂).trans x₃)) trivial)
theorem st_ss {ss : List S} {fl : Fl} (H : EnvOk G A env h₀ L n) (hL : env.locals = L) (S : Slots G L env ns m N ρ sl) (I : Inv G h₀ L m N ρ σ s.heap s.toks) (h : stepSs r ss sl σ = some (fl, sl', σ')) :
    WpS G A h₀ L env ns m (execs (Mine.S.ers ns ss) env) sl' σ' (FlR G fl) N ρ s := by
  cases ss with
  | nil => (first | exact (no h).elim | cases h); exact WpS.of (Wp.same' (R := FlR G .next) I rfl fun Q E q => wpAny_execs_nil q) S
  | cons st ss =>
    unfold stepSs at h
    obtain ⟨x, e1, h⟩ := bind_some h
    obtain ⟨f1, sl₁, σ₁⟩ := x
    intro Q E q
    refine wpAny_execs_cons ((hs.s H hL S I e1) _ _ fun f h₁ tk N₁ ρ₁ m₁ I₁ x₁ S₁ r₁ => ?_)
    unfold ssN at h
    cases f1 with
    | next =>
      rw [show f = .next from r₁]
      exact (hs.ss H hL S₁ I₁ h) _ _ fun g h₂ tk₂ N₂ ρ₂ m₂ I₂ x₂ S₂ r₂ => q g h₂ tk₂ N₂ ρ₂ m₂ I₂ (x₁.trans x₂) S₂ r₂
    | brk =>
      (first | exact (no h).elim | cases h)
      rw [show f = .brk from r₁]
      exact q _ h₁ tk N₁ ρ₁ m₁ I₁ x₁ S₁ rfl
    | ret w =>
      (first | exact (no h).elim | cases h)
      obtain ⟨u, rfl, ru⟩ := r₁
      exact q _ h₁ tk N₁ ρ₁ m₁ I₁ x₁ S₁ ⟨u, rfl, ru⟩
theorem st_wh {t : E} {b : List S} {fl : Fl} (H : EnvOk G A env h₀ L n) (hL : env.locals = L) (S : Slots G L env ns m N ρ sl) (I : Inv G h₀ L m N ρ σ s.heap s.toks) (h : stepWh r t b sl σ = some (fl, sl', σ')) (P : Result → Shared → Prop)
    (k : ∀ f h' tk N' ρ' m', Inv G h₀ L m' N' ρ' σ' h' tk → Ext G N ρ N' ρ' → Slots G L env ns m' N' ρ' sl' → FlR G fl f N' ρ' → P (.ok f) { s with heap := h', toks := tk }) :
    codeAny (model G.prog G.w) A (.whileLoop (t.er ns) (Mine.S.ers ns b) [] env) P s := by
  unfold stepWh at h
  obtain ⟨x, e1, h⟩ := bind_some h
  obtain ⟨c, σ₁⟩ := x
  refine while_step ((hs.t H S I e1) _ _ fun d h₁ tk N₁ ρ₁ I₁ x₁ r₁ => ?_)
  rw [show d = c from r₁]
  cases c with
  | false =>
    (first | exact (no h).elim | cases h)
    exact k _ h₁ tk N₁ ρ₁ m I₁ x₁ (S.mono x₁) rfl
  | true =>
    obtain ⟨y, e2, h⟩ := bind_some h
    obtain ⟨f1, sl₁, σ₂⟩ := y
    simp only [if_true]
    refine (hs.ss (s := { s with heap := h₁, toks := tk }) H hL (S.mono x₁) I₁ e2) _ _ fun f h₂ tk₂ N₂ ρ₂ m₂ I₂ x₂ S₂ r₂ => ?_
    unfold whN at h
    cases f1 with
    | next =>
      rw [show f = .next from r₂]
      exact hs.wh H hL S₂ I₂ h P fun g h₃ tk₃ N₃ ρ₃ m₃ I₃ x₃ S₃ r₃ => k g h₃ tk₃ N₃ ρ₃ m₃ I₃ ((x₁.trans x₂).trans x₃) S₃ r₃
    | brk =>
      (first | exact (no h).elim | cases h)
      rw [show f = .brk from r₂]
      exact k _ h₂ tk₂ N₂ ρ₂ m₂ I₂ (x₁.trans x₂) S₂ rfl
    | ret w =>
      (first | exact (no h).elim | cases h)
      obtain ⟨u, rfl, ru⟩ := r₂
      exact k _ h₂ tk₂ N₂ ρ₂ m₂ I₂ (x₁.trans x₂) S₂ ⟨u, rfl, ru⟩
theorem st_fr {t : T} {it : It} {b : List S} {fl : Fl} {a : Addr} {X : List Addr} (H : EnvOk G A env h₀ L n) (hL : env.locals = L) (S : Slots G L env ns m N ρ sl) (I : Inv G h₀ L m N ρ σ s.heap s.toks) (O : ItOk G N ρ a X it)
    (h : stepFr r t it b sl σ = some (fl, sl', σ')) (P : Result → Shared → Prop)
    (k : ∀ f h' tk N' ρ' m', Inv G h₀ L m' N' ρ' σ' h' tk → ExtX G X N ρ N' ρ' → Slots G L env ns m' N' ρ' sl' → FlR G fl f N' ρ' → P (.ok f) { s with heap := h', toks := tk }) :
    codeAny (model G.prog G.w) A (.forLoop (t.er ns) (.ref a) (Mine.S.ers ns b) [] env) P s := by
  unfold stepFr at h
  obtain ⟨nx, e1, h⟩ := bind_some h
  have bad := O.bad I.nd
  refine for_turn e1 O I H.hd (fun p hr w => ?_) ?_
  · subst hr
    simp only [frG] at h
    obtain ⟨hc, _⟩ := cond_some h
    cases t <;> first | rfl | exact absurd hc Bool.false_ne_true
  cases nx with
  | none =>
    (first | exact (no h).elim | cases h)
    intro h' tk N' I' x'
    exact k _ h' tk N' ρ m I' x' (S.monoL hL I (x'.tr bad)) rfl
  | some p =>
    intro h' tk N₁ u ts I₁ x₁ old O₁ hu
    simp only [frG] at h
    obtain ⟨_, h⟩ := cond_some h
    obtain ⟨y, e2, h⟩ := bind_some h
    obtain ⟨z, e3, h⟩ := bind_some h
    obtain ⟨f1, sl₂, σ₂⟩ := z
    have S₁ := S.monoL hL I (x₁.tr bad)
    refine (hs.a (s := { s with heap := h', toks := tk }) H hL S₁ I₁ hu e2) _ _ fun _ h₂ tk₂ N₂ ρ₂ m₂ I₂ x₂ S₂ _ => ?_
    refine (hs.ss (s := { s with heap := h₂, toks := tk₂ }) H hL S₂ I₂ e3) _ _ fun f h₃ tk₃ N₃ ρ₃ m₃ I₃ x₃ S₃ r₃ => ?_
    have x23 := x₂.trans x₃
    have x13 : ExtX G X N ρ N₃ ρ₃ := x₁.trans old (x23.toX X)
    have old3 : ∀ c ob, (c, ob) ∈ N → ∃ ox, (c, ox) ∈ N₃ := fun c ob hc => let ⟨ox, ho⟩ := old c ob hc; x23.old c ox ho
    unfold frN at h
    cases f1 with
    | next =>
      rw [show f = .next from r₃]
      exact hs.fr (s := { s with heap := h₃, toks := tk₃ }) H hL S₃ I₃ (O₁.mono x23) h P fun g h₄ tk₄ N₄ ρ₄ m₄ I₄ x₄ S₄ r₄ => k g h₄ tk₄ N₄ ρ₄ m₄ I₄ (x13.trans old3 x₄) S₄ r₄
    | brk =>
      (first | exact (no h).elim | cases h)
      rw [show f = .brk from r₃]
      exact k _ h₃ tk₃ N₃ ρ₃ m₃ I₃ x13 S₃ rfl
    | ret w =>
      (first | exact (no h).elim | cases h)
      obtain ⟨u, rfl, ru⟩ := r₃
      exact k _ h₃ tk₃ N₃ ρ₃ m₃ I₃ x13 S₃ ⟨u, rfl, ru⟩
end
end Mine

open PySem PySem.W PyProof.Rows PySem.Calls
namespace Mine
set_option autoImplicit false
set_option linter.unusedVariables false
set_option maxRecDepth 20000

section
variable {G : St} {CT : List Cl} {GV : List (Option MV)} {r : Rec} {n : Nat} {A : Around} {env : Env} {h₀ : Heap} {L : Addr} {ns : Names} {m : Str → Option Value} {N : Led} {ρ : Rho} {s : Shared} {sl sl' : List Slot} {σ σ' : List MO} {v : MV}

theorem swapsNo {t : T} {e : E} {l : Nat} (hn : NR e) (h : asgB sl t e = true) : swapsWithSole [t.er ns] (e.er ns) l env = pure false := by
  cases e <;> first | exact absurd rfl (hn _) | rfl | (exfalso; cases t <;> (first | exact (no h).elim | cases h))
theorem isCst_ers : ∀ {es : List E}, es.all isCst = true → (E.ers ns es).all (foldedForSure 8) = true
  | [], _ => rfl
  | e :: es, h => by
    rw [List.all_cons] at h
    obtain ⟨h1, h2⟩ := Bool.and_eq_true_iff.mp h
    show (foldedForSure 8 (e.er ns) && (E.ers ns es).all (foldedForSure 8)) = true
    rw [isCst_ers h2, Bool.and_true]
    cases e <;> first | (cases h1; done) | rfl
theorem ersT_len : ∀ ts : List T, (T.ers ns ts).length = ts.length
  | [] => rfl
  | t :: ts => by show (T.ers ns ts).length + 1 = _; rw [ersT_len ts]; rfl
theorem notLoc_few {sl : List Slot} (S : Slots G L env ns m N ρ sl) (ln : Nat) : ∀ ts : List T, ts.any (notLoc sl) = true →
    ((T.ers ns ts).filterMap (fun | .Name id pos => if (env.kindOf id == some .local && pos.line == ln) = true then some id else none | _ => none)).length < ts.length
  | [], h => by (first | exact (no h).elim | cases h)
  | t :: ts, h => by
    have le : ∀ (f : Expr → Option Str), ((T.ers ns ts).filterMap f).length ≤ ts.length := fun f => by rw [← ersT_len (ns := ns) ts]; exact List.length_filterMap_le ..
    rw [List.any_cons] at h
    rw [List.length_cons]
    show (List.filterMap _ (t.er ns :: T.ers ns ts)).length < _
    rw [List.filterMap_cons]
    cases hq : notLoc sl t with
    | false =>
      rw [hq, Bool.false_or] at h
      have ih := notLoc_few S ln ts h
      split
      · exact Nat.lt_succ_of_lt ih
      · exact Nat.succ_lt_succ ih
    | true =>
      have : (match t.er ns with | .Name id pos => if (env.kindOf id == some .local && pos.line == ln) = true then some id else none | _ => none) = none := by
        cases t with
        | sub o i p => rfl
        | name i p =>
          have hq' : isCel (at? sl i) = true := hq
          rw [at?_eq] at hq'
          cases hx : sl[i]? with
          | none => rw [hx] at hq'; cases hq'
          | some x =>
            rw [hx] at hq'
            cases x <;> try (cases hq'; done)
            cases S.ok _ _ hx with | cel h1 =>
            show (if (env.kindOf (ns.at i) == some .local && _) = true then some (ns.at i) else none) = none
            rw [h1]; rfl
        | _ => cases hq
      rw [this]
      exact Nat.lt_succ_of_le (le _)
theorem storesNo {t : T} {e : E} {sl : List Slot} (S : Slots G L env ns m N ρ sl) (hn : NR e) (h : asgB sl t e = true) : swappedStores [t.er ns] (e.er ns) env = pure none := by
  by_cases ht : ∃ ts k p, t = .tup ts k p
  · obtain ⟨ts, k, p, rfl⟩ := ht
    by_cases he : ∃ es k p, e = .tup es k p
    · obtain ⟨es, k', p', rfl⟩ := he
      show swappedStores [.Tuple (T.ers ns ts) k p] (.Tuple (E.ers ns es) k' p') env = pure none
      rcases Bool.or_eq_true_iff.mp h with h | h
      · have hc := isCst_ers (ns := ns) (show es.all isCst = true from h)
        unfold swappedStores
        simp only [hc]
        repeat (first | rfl | split)
      · unfold swappedStores
        dsimp only
        generalize hnm : List.filterMap (β := Str) _ (T.ers ns ts) = nm
        have c : (nm.length != (T.ers ns ts).length) = true := by
          rw [← hnm, ersT_len]
          have := notLoc_few S (((T.ers ns ts).head?.map (·.pos.line)).getD 0) ts h
          exact bne_iff_ne.mpr (Nat.ne_of_lt this)
        simp only [c, Bool.true_or, if_true]
        repeat (first | rfl | split)
    · cases e <;> first | exact absurd rfl (hn _) | rfl | exact absurd ⟨_, _, _, rfl⟩ he
  · cases t <;> first | exact absurd ⟨_, _, _, rfl⟩ ht | rfl
theorem assignEach1 (t : T) (u : Value) : assignAll u ((assignEach [t.er ns] env).map (·.2)) = assign (t.er ns) env u := by
  have : assignEach [t.er ns] env = [(false, assign (t.er ns) env)] := by cases t <;> rfl
  rw [this]; rfl
theorem celOf_ok {x : Slot} {k i : Nat} (h : celOf x = some k) (ok : SlotOk G L env m N ρ ns i x) : ∃ c, env.cells.lookup (ns.at i) = some c ∧ ρ.l[k]? = some (c, c) := by
  cases ok <;> first | ((first | exact (no h).elim | cases h); done) | ((first | exact (no h).elim | cases h); exact ⟨_, by assumption, by assumption⟩)
/-- a lambda made -/
theorem st_lam {j k : Nat} {p : Pos} {v : MV} (hT : (G.TB.map (·.P)).Nodup) (H : EnvOk G A env h₀ L n) (S : Slots G L env ns m N ρ sl) (I : Inv G h₀ L m N ρ σ s.heap s.toks) (h : lamS k σ (at? sl j) = some (v, σ')) :
    Wp G A h₀ L m (eval ((Mine.E.lam j k p).er ns) env) σ' (VR G v) N ρ s := by
  rw [at?_eq] at h
  cases hx : sl[j]? with
  | none => rw [hx] at h; exact (no h).elim
  | some x =>
    rw [hx] at h
    cases x <;> try (exact (no h).elim)
    rename_i i' k' cs
    replace h : cond (Nat.beq k k' && !noLam (lamOf k)) (some (MV.lam k, σ)) none = some (v, σ') := h
    obtain ⟨hb, h⟩ := cond_some h
    cases h
    obtain ⟨hb1, hb2⟩ := Bool.and_eq_true_iff.mp hb
    obtain rfl := Nat.eq_of_beq_eq_true hb1
    have hb3 : noLam (lamOf k) = false := by simpa using hb2
    cases S.ok j _ hx with | nst hN =>
    obtain ⟨cn, sc, L', a, t, cl, he, ht, hp, hq, hqn, hnm, hdf, hcl⟩ := hN.1 hb3
    obtain ⟨c, hc⟩ : ∃ c, lamOf k = some c := by
      cases hl : lamOf k with
      | none => rw [hl] at hb3; cases hb3
      | some c => exact ⟨c, rfl⟩
    show Wp G A h₀ L m (eval (.Lambda (cdAt k).params (lamX ((lamOf k).getD (.none, 0, p))) (cdAt k).scope (cdAt k).pos) env) _ _ _ _ _
    rw [hc, Option.getD_some]
    obtain ⟨p', loose, mean, mg, mb, T⟩ := H.T
    intro Q E q
    refine kla_eval hdf ?_
    rw [hqn, ← hnm]
    obtain ⟨ps, hrow, hps⟩ := I.tb t ht
    obtain rfl : L' = L := by have := H.fr; rw [he] at this; exact Option.some.inj this
    rw [he] at hcl ⊢
    rcases hps with rfl | ⟨c', oc, vs, u, rfl, g1, g2, g3, g4⟩
    · refine toksUp (kla_nest (c := t.c) (P := t.P) (ps := #[]) I.F I.W T (H.tabs t ht) rfl (upd_UpdF I.nd hrow) trivial rfl hcl fun f c' oc vs tt ctv h' tk F' W' hd hv l1 l2 le => ?_)
      have fr1 : Fresh N c' := .lt l1
      have fr2 : Fresh N f := .lt fun q hq => Nat.lt_trans (l1 q hq) l2
      obtain ⟨J, x⟩ := I.tabs le (new := [(f, kla_obj (cdAt k).name (cdAt k).qual (cdAt k).params (lamX c) (cdAt k).scope [] ((mg "__name__").getD .none) c' ctv), (c', oc)]) (ps' := #[rawInt (cdAt k).pos.line, rawInt (cdAt k).pos.col, .ref c']) hT ht hrow F' (by simpa using W')
        (by simp; exact Nat.ne_of_gt l2) (fun q hq => by
          rcases List.mem_cons.mp hq with rfl | hq
          · exact fr2
          · rw [List.mem_singleton.mp hq]; exact fr1) ⟨c', oc, vs, tt, by rw [hp], by simp, hd, by rw [hq]; exact hv⟩
      exact q _ h' tk _ ρ J x (.lam (oc := oc) (vs := vs) (t := tt) hc (List.mem_append_left _ (List.mem_cons_self ..)) (I.off fr2).1 (List.mem_append_left _ (by simp)) (I.off fr1).1 hd hv)
    · refine toksUp (kla_hit (c := t.c) (P := t.P) (ps := #[rawInt t.pos.line, rawInt t.pos.col, .ref c']) (c' := c') I.F I.W T (H.tabs t ht) rfl hrow (by simp [TriplesOk, rawInt]) (by simp [codeAmong, rawInt, hp]) hcl fun f ctv h' tk F' W' l1 le => ?_)
      have fr2 : Fresh N f := .lt l1
      obtain ⟨J, x⟩ := I.more le (new := [(f, kla_obj (cdAt k).name (cdAt k).qual (cdAt k).params (lamX c) (cdAt k).scope [] ((mg "__name__").getD .none) c' ctv)]) F' W' (by simp) (by simpa using fr2)
      exact q _ h' tk _ ρ J x (.lam (oc := oc) (vs := vs) (t := u) hc (List.mem_append_left _ (List.mem_cons_self ..)) (I.off fr2).1 (List.mem_append_right _ g1) g2 g3 (hq ▸ g4))
end
end Mine

open PySem PySem.W PyProof.Rows PySem.Calls
namespace Mine
set_option autoImplicit false
set_option backward.match.sparseCases false
set_option linter.unusedVariables false
set_option maxRecDepth 20000

/-! ## comprehensions -/
theorem ndB2_ok : ∀ {l : List Str}, ndB2 l = true → l.Nodup
  | [], _ => List.nodup_nil
  | x :: xs, h => by
    simp only [ndB2, Bool.and_eq_true, Bool.not_eq_true'] at h
    refine List.nodup_cons.mpr ⟨fun hm => ?_, ndB2_ok h.2⟩
    have := List.contains_iff_mem.mpr hm
    rw [h.1] at this; cases this
theorem csB_ok {ns : Names} : ∀ {nm : Names} {cs : List CS}, csB ns nm cs = true → cs.length = nm.length ∧ ∀ (i : Nat) (c : CS), cs[i]? = some c → ∃ p, nm[i]? = some p ∧ csOne ns p.1 p.2 c = true
  | [], [], _ => ⟨rfl, fun i c e => by simp at e⟩
  | [], _ :: _, h => by (first | exact (no h).elim | cases h)
  | _ :: _, [], h => by (first | exact (no h).elim | cases h)
  | p :: nm, c :: cs, h => by
    simp only [csB, Bool.and_eq_true] at h
    obtain ⟨h1, h2⟩ := csB_ok h.2
    refine ⟨by simp [h1], fun i d e => ?_⟩
    cases i with
    | zero => simp only [List.getElem?_cons_zero, Option.some.injEq] at e; subst e; exact ⟨p, rfl, h.1⟩
    | succ i => simpa using h2 i d (by simpa using e)
theorem lookup_at : ∀ {nm : Names} {i : Nat} {p : Str × NameKind}, (nm.map (·.1)).Nodup → nm[i]? = some p → nm.lookup p.1 = some p.2
  | [], i, p, _, e => by simp at e
  | q :: nm, i, p, nd, e => by
    rw [List.map_cons, List.nodup_cons] at nd
    cases i with
    | zero => simp only [List.getElem?_cons_zero, Option.some.injEq] at e; subst e; rw [List.lookup_cons, beq_self_eq_true]
    | succ i =>
      have e' : nm[i]? = some p := by simpa using e
      have : (p.1 == q.1) = false := by
        rw [beq_eq_false_iff_ne]
        intro h
        exact nd.1 (h ▸ List.mem_map_of_mem (List.mem_of_getElem? e'))
      rw [List.lookup_cons, this]
      exact lookup_at nd.2 e'
theorem at_of {nm : Names} {i : Nat} {p : Str × NameKind} (e : nm[i]? = some p) : nm.at i = p.1 := by
  unfold Names.at
  rw [List.getD_eq_getElem?_getD, List.getElem?_map, e]; rfl
theorem closureFor_free {scope : Scope} {env : Env} {f : Str → Addr} : (∀ p ∈ scope.names, p.2 = .free → env.cells.lookup p.1 = some (f p.1)) → closureFor scope env = pure (((frees scope.names).map fun x => (x, f x)).reverse) := by
  intro h
  have key : ∀ (names : Names) (acc : List (Str × Addr)), (∀ p ∈ names, p.2 = .free → env.cells.lookup p.1 = some (f p.1)) →
      (forIn names acc fun x cs => match x with
        | (name, kind) => if (kind == NameKind.free) = true then (do let c ← cellOf env name; pure (ForInStep.yield ((name, c) :: cs))) else pure (ForInStep.yield cs) : Sem (List (Str × Addr))) = pure (((frees names).map fun x => (x, f x)).reverse ++ acc) := by
    intro names
    induction names with
    | nil => intro acc _; rfl
    | cons p names ih =>
      intro acc hh
      obtain ⟨x, k⟩ := p
      rw [List.forIn_cons]
      by_cases hk : k = .free
      · subst hk
        have hl := hh (x, .free) (List.mem_cons_self ..) rfl
        have : cellOf env x = pure (f x) := by unfold cellOf; rw [hl]
        simp only [beq_self_eq_true, if_true, this, pure_bind]
        rw [ih _ fun p hp => hh p (List.mem_cons_of_mem _ hp)]
        simp [frees]
      · have : (k == NameKind.free) = false := by simpa using hk
        simp only [this, Bool.false_eq_true, if_false, pure_bind]
        rw [ih _ fun p hp => hh p (List.mem_cons_of_mem _ hp)]
        simp [frees, this]
  unfold closureFor
  have := key scope.names [] h
  simp only [List.append_nil] at this
  exact (congrArg (fun t => t >>= fun s => pure s) this).trans (pure_bind _ _)

section
variable {G : St} {CT : List Cl} {GV : List (Option MV)} {r : Rec} {n : Nat} {A : Around} {env : Env} {h₀ : Heap} {L : Addr} {ns : Names} {m : Str → Option Value} {N : Led} {ρ : Rho} {s : Shared} {sl sl' : List Slot} {σ σ' : List MO} {v : MV}

theorem iterSelf {a : Addr} {X : List Addr} {it : It} (O : ItOk G N ρ a X it) (I : Inv G h₀ L m N ρ σ s.heap s.toks) :
    ∀ (Q : Value → Shared → Prop) (E : Value → Shared → Prop), Q (.ref a) s → wpAny (model G.prog G.w) A (pyIter (.ref a)) Q E s := by
  intro Q E q
  cases O with
  | one hm hn hr =>
    have hx := (I.W _ hm).1
    cases hr with
    | rng b k => exact wpAny_pyIter_rangeiter hx q
    | str h3 h4 =>
      rename_i l k t
      by_cases ha : l.toArray.all (· < 128) = true
      · exact wpAny_pyIter_striter_ascii ⟨_, hx, by rw [h3]; unfold strIt; rw [if_pos ha], h4⟩ q
      · exact wpAny_pyIter_striter_wide ⟨_, hx, by rw [h3]; unfold strIt; rw [if_neg ha], h4⟩ q
    | lst h3 h4 h5 => exact wpAny_pyIter_listiter ⟨_, hx, h4, h5⟩ q
theorem NsOb.bad {o : Obj} {mc : Str → Option Value} (h : NsOb o mc) : ¬ Good o := by
  obtain ⟨es, ep, e, _⟩ := h
  rintro (⟨_, _, g⟩ | ⟨_, g⟩ | ⟨_, _, g⟩ | ⟨_, _, _, g, _⟩)
  · rw [e] at g; cases g
  · rw [e] at g; cases g
  · rw [e] at g; cases g
  · rw [e] at g; cases g
theorem NsOb.same {o : Obj} {m₁ m₂ : Str → Option Value} (h₁ : NsOb o m₁) (h₂ : NsOb o m₂) (x : Str) : m₁ x = m₂ x := by
  obtain ⟨es, ep, e, _, f⟩ := h₁
  obtain ⟨es', ep', e', _, f'⟩ := h₂
  rw [e] at e'
  (first | exact (no e').elim | cases e')
  rw [← f x, f' x]

/-- a name of a comprehension is set -/
theorem com_store {C : Addr} {oC : Obj} {mc : Str → Option Value} {i : Nat} {p : Pos} {u : Value} {Q : Unit → Shared → Prop} {E : Value → Shared → Prop} (H : EnvOk G A env h₀ L n) (hC : env.locals = C) (hCL : C ≠ L) (hk : env.kindOf (ns.at i) = some .local) (hi : i < ns.length)
    (S : Slots G L env ns m N ρ sl) (I : Inv G h₀ L m N ρ σ s.heap s.toks) (hmC : (C, oC) ∈ N) (hnC : C ∉ mts G ρ) (hoC : NsOb oC mc) (hu : RV G N ρ u v)
    (q : ∀ h' tk N' oC' mc', Inv G h₀ L m N' ρ σ h' tk → ExtX G [C] N ρ N' ρ → (∀ b ob, (b, ob) ∈ N → ∃ ox, (b, ox) ∈ N') → (C, oC') ∈ N' → NsOb oC' mc' → Slots G L env ns m N' ρ (setAt (.loc (some v)) sl i) → Q () { s with heap := h', toks := tk }) :
    wpAny (model G.prog G.w) A (assign (.Name (ns.at i) p) env u) Q E s := by
  subst hC
  refine wpAny_assign_Name (wpAny_storeName_local hk (hoC.ns (I.W _ hmC).1) (fun h₂ hn₂ sb₂ => ?_) (notMod H))
  obtain ⟨oC₂, hg₂, hoC₂⟩ := ns_ob hn₂
  obtain ⟨I₂, x₂, old₂, hmC₂⟩ := turnX I (Nat.le_add_right s.toks 1) hmC hnC hoC.bad sb₂ hg₂
  have bad₂ : ∀ c ∈ [env.locals], ∀ ob, (c, ob) ∈ N → ¬ Good ob := fun c hc ob hob => by
    rw [List.mem_singleton.mp hc] at hob
    rw [nodup_row I.nd hob hmC]; exact hoC.bad
  have t12 := x₂.tr bad₂
  refine q h₂ _ _ oC₂ _ I₂ x₂ old₂ hmC₂ hoC₂ ⟨by rw [setAt_eq]; simp [S.len], S.nd, S.dbg, fun j z e => ?_⟩
  rcases set_at e with ⟨rfl, rfl⟩ | ⟨hne, e⟩
  · exact .comS hk hmC₂ hnC hoC₂ (if_pos rfl) (hu.monoT t12)
  · have hj : j < ns.length := S.len ▸ lenOk_of e
    cases S.ok j z e with
    | locS h0 h1 h2 h3 => exact absurd h0 hCL
    | locN h0 h1 => exact .comN hCL h1
    | comS h1 h2 h3 h4 h5 h6 =>
      have : _ = oC := nodup_row I.nd h2 hmC
      subst this
      refine .comS h1 hmC₂ hnC hoC₂ ((if_neg fun z => hne (at_inj S.nd hj hi z)).trans ?_) (h6.monoT t12)
      rw [hoC.same h4]; exact h5
    | comN h1 h2 => exact .comN h1 h2
    | glb h1 h2 => exact .glb h1 h2
    | cel h1 h2 h3 => exact .cel h1 h2 h3
    | fre h1 h2 h3 => exact .fre h1 h2 h3
    | nst h => exact .nst h
    | nid h => exact .nid h
    | unk => exact .unk
/-- the slots after a step of an iterator whose rows no slot stands on -/
theorem slots_com {C : Addr} {oC : Obj} {X : List Addr} {N' : Led} {ρ' : Rho} (hC : env.locals = C) (hCL : C ≠ L) (hCX : C ∉ X) (S : Slots G L env ns m N ρ sl) (x : ExtX G X N ρ N' ρ') (t : Tr G N ρ N' ρ') (hmC : (C, oC) ∈ N) (hnC : C ∉ mts G ρ) (nd : (N.map (·.1)).Nodup) : Slots G L env ns m N' ρ' sl := by
  subst hC
  refine ⟨S.len, S.nd, S.dbg, fun j z e => ?_⟩
  cases S.ok j z e with
  | locS h0 h1 h2 h3 => exact absurd h0 hCL
  | locN h0 h1 => exact .comN hCL h1
  | comS h1 h2 h3 h4 h5 h6 => exact .comS h1 (x.sub _ h2 h3 hCX) (x.off h2 h3) h4 h5 (h6.monoT t)
  | comN h1 h2 => exact .comN h1 h2
  | glb h1 h2 => exact .glb h1 h2
  | cel h1 h2 h3 => exact .cel h1 h2 (t.get h3)
  | fre h1 h2 h3 => exact .fre h1 h2 (t.get h3)
  | nst h => exact .nst h
  | nid h => exact .nid h
  | unk => exact .unk
variable (hs : Sound G r n)
include hs
theorem st_co {elt : E} {ct : CTg} {u : Nat} {iter : Expr} {sc : Scope} {p : Pos} {ifs : List E} {it : It} {ka : Nat} {a C D : Addr} {X : List Addr} {oC : Obj} {mc : Str → Option Value} (H : EnvOk G A env h₀ L n) (hC : env.locals = C)
    (hCL : C ≠ L) (haC : C ∉ X) (hk : ∀ i ∈ ct.ix, env.kindOf ((nmAt u).at i) = some .local ∧ i < (nmAt u).length) (S : Slots G L env (nmAt u) m N ρ sl) (I : Inv G h₀ L m N ρ σ s.heap s.toks)
    (O : ItOk G N ρ a X it) (hmC : (C, oC) ∈ N) (hnC : C ∉ mts G ρ) (hoC : NsOb oC mc) (hD : ρ.l[ka]? = some (D, D)) (h : stepCo r elt ct ifs it ka sl σ = some σ') (P : Result → Shared → Prop)
    (k : ∀ h' tk N' ρ' oC' mc', Inv G h₀ L m N' ρ' σ' h' tk → ExtX G (C :: X) N ρ N' ρ' → (C, oC') ∈ N' → NsOb oC' mc' → P (.ok .next) { s with heap := h', toks := tk }) :
    codeAny (model G.prog G.w) A (.compLoop (.ListComp (elt.er (nmAt u)) [⟨ct.er (nmAt u), iter, E.ers (nmAt u) ifs, 0⟩] sc p) 0 (.ref a) (.ref D) env) P s := by
  unfold stepCo at h
  obtain ⟨nx, e1, h⟩ := bind_some h
  have bad := O.bad I.nd
  have wide : ∀ {N₁ : Led} {ρ₁ : Rho}, ExtX G X N ρ N₁ ρ₁ → ExtX G (C :: X) N ρ N₁ ρ₁ := fun x =>
    ⟨fun q hq hn he => x.sub q hq hn fun h' => he (List.mem_cons_of_mem _ h'), x.pre, x.bb, x.fr, fun b ob hb he => x.old b ob hb fun h' => he (List.mem_cons_of_mem _ h')⟩
  obtain ⟨ci, cp⟩ := ct
  obtain ⟨k1, k2⟩ := hk ci (List.mem_singleton.mpr rfl)
  refine comp_turn e1 O I H.hd (fun _ _ w => rfl) ?_
  cases nx with
  | none =>
    (first | exact (no h).elim | cases h)
    intro h' tk N' I' x'
    exact k h' tk N' ρ oC mc I' (wide x') (x'.sub _ hmC hnC haC) hoC
  | some q =>
    intro h' tk N₁ w ts I₁ x₁ old O₁ hw
    simp only [coG] at h
    obtain ⟨y, e2, h⟩ := bind_some h
    generalize hsl : ctSet q.1 sl (.one ci cp) = sl₂ at h e2
    have hmC₁ : (C, oC) ∈ N₁ := x₁.sub _ hmC hnC haC
    have hnC₁ : C ∉ mts G (ρ.ups ts) := hnC
    have S₁ := slots_com hC hCL haC S x₁ (x₁.tr bad) hmC hnC I.nd
    refine com_store (s := { s with heap := h', toks := tk }) H hC hCL k1 k2 S₁ I₁ hmC₁ hnC₁ hoC hw fun h₂ tk₂ N₂ oC₂ mc₂ I₂ x₂ old₂ hmC₂ hoC₂ S₂ => ?_
    replace S₂ : Slots G L env (nmAt u) m N₂ (ρ.ups ts) sl₂ := hsl ▸ S₂
    have badC : ∀ o, (C, o) ∈ N₁ → ¬ Good o := fun o ho => by rw [nodup_row I₁.nd ho hmC₁]; exact hoC.bad
    have O₂ := O₁.keepX x₂ badC haC
    have x02 : ExtX G (C :: X) N ρ N₂ (ρ.ups ts) :=
      ⟨fun z hz hzn he => x₂.sub z (x₁.sub z hz hzn fun h' => he (List.mem_cons_of_mem _ h')) hzn fun h' => he (by rw [List.mem_singleton.mp h']; simp), x₁.pre, x₁.bb, fun b hb => .inl hb, fun b ob hb he => let ⟨ox, ho⟩ := old b ob hb; old₂ b ox ho⟩
    have old02 : ∀ b ob, (b, ob) ∈ N → ∃ ox, (b, ox) ∈ N₂ := fun b ob hb => let ⟨ox, ho⟩ := old b ob hb; old₂ b ox ho
    refine (hs.tf (s := { s with heap := h₂, toks := tk₂ }) H S₂ I₂ e2) _ _ fun c h₃ tk₃ N₃ ρ₃ I₃ x₃ r₃ => ?_
    rw [show c = y.1 from r₃]
    obtain ⟨b, σ₁⟩ := y
    have go : ∀ {σ₂ : List MO} {h₄ : Heap} {tk₄ : Nat} {N₄ : Led} {ρ₄ : Rho}, Inv G h₀ L m N₄ ρ₄ σ₂ h₄ tk₄ → Ext G N₂ (ρ.ups ts) N₄ ρ₄ → r.co elt (.one ci cp) ifs q.2 ka sl₂ σ₂ = some σ' →
        codeAny (model G.prog G.w) A (.compLoop (.ListComp (elt.er (nmAt u)) [⟨(CTg.one ci cp).er (nmAt u), iter, E.ers (nmAt u) ifs, 0⟩] sc p) 0 (.ref a) (.ref D) env) P { s with heap := h₄, toks := tk₄ } := by
      intro σ₂ h₄ tk₄ N₄ ρ₄ I₄ x₄ e4
      have hmC₄ := x₄.sub _ hmC₂ hnC₁
      exact hs.co (ct := .one ci cp) (s := { s with heap := h₄, toks := tk₄ }) H hC hCL haC hk (S₂.mono x₄) I₄ (O₂.mono x₄) hmC₄ (x₄.off hmC₂ hnC₁) hoC₂ (x₄.get hD) e4 P
        fun h₅ tk₅ N₅ ρ₅ oC₅ mc₅ I₅ x₅ hm₅ ho₅ => k h₅ tk₅ N₅ ρ₅ oC₅ mc₅ I₅ ((x02.trans old02 (x₄.toX _)).trans (fun b ob hb => let ⟨ox, ho⟩ := old02 b ob hb; x₄.old b ox ho) x₅) hm₅ ho₅
    unfold coE at h
    cases b with
    | false => exact go I₃ x₃ h
    | true =>
      obtain ⟨z, e3, h⟩ := bind_some h
      obtain ⟨σ₃, e4, h⟩ := bind_some h
      simp only [if_true]
      refine (hs.e (s := { s with heap := h₃, toks := tk₃ }) H (S₂.mono x₃) I₃ e3) _ _ fun w' h₄ tk₄ N₄ ρ₄ I₄ x₄ r₄ => ?_
      have x34 := x₃.trans x₄
      have hap : apLv z.2 10 [z.1] (.ref ka) = some (.none, σ₃) := by
        unfold apnd at e4
        show apL z.2 ka 10 [z.1] (at? z.2 ka) = _
        cases hq : at? z.2 ka with
        | none => rw [hq] at e4; cases e4
        | some mo =>
          rw [hq] at e4
          cases mo <;> try (cases e4; done)
          rename_i xs
          simp only at e4
          obtain ⟨hz, e4⟩ := cond_some e4
          cases e4
          show (cond (lenOk xs.length) _ none) = _
          rw [hz]; rfl
      have hDv : RV G N₄ ρ₄ (.ref D) (.ref ka) := .ref (p := (D, D)) (x34.get hD)
      exact (apL_ok (A := A) (s := { s with heap := h₄, toks := tk₄ }) (.inl rfl) hap hDv (.cons r₄ .nil) I₄) _ _ fun _ h₅ tk₅ N₅ ρ₅ I₅ x₅ _ => go I₅ (x34.trans x₅) h
end
end Mine

open PySem PySem.W PyProof.Rows PySem.Calls
namespace Mine
set_option autoImplicit false
set_option backward.match.sparseCases false
set_option linter.unusedVariables false
set_option maxRecDepth 20000

section
variable {G : St} {CT : List Cl} {GV : List (Option MV)} {r : Rec} {n : Nat} {A : Around} {env : Env} {h₀ : Heap} {L : Addr} {ns : Names} {m : Str → Option Value} {N N₀ N' : Led} {ρ ρ' : Rho} {s : Shared} {sl sl' : List Slot} {σ σ' : List MO} {v : MV}

noncomputable abbrev Olds (N₀ N : Led) : Prop := ∀ b ob, (b, ob) ∈ N₀ → ∃ ox, (b, ox) ∈ N
theorem fresh_old {c : Addr} (o : Olds N₀ N) (f : Fresh N c) : Fresh N₀ c := fun q hq e => let ⟨ox, h⟩ := o q.1 q.2 hq; f _ h e
/-- a value that a loop is to walk over -/
noncomputable def SrcR (G : St) (σ : List MO) (it : It) (v : Value) (N : Led) (ρ : Rho) : Prop := ∃ mv, It.of σ mv = some it ∧ RV G N ρ v mv
theorem srcIter {it : It} {u : Value} (h : SrcR G σ it u N ρ) (o : Olds N₀ N) (I : Inv G h₀ L m N ρ σ s.heap s.toks) : ∀ (Q : Value → Shared → Prop) (E : Value → Shared → Prop),
    (∀ a X h' N', Inv G h₀ L m N' ρ σ h' s.toks → Ext G N ρ N' ρ → ItOk G N' ρ a X it → (∀ c ∈ X, Fresh N₀ c) → Q (.ref a) { s with heap := h' }) → wpAny (model G.prog G.w) A (pyIter u) Q E s := by
  intro Q E q
  obtain ⟨mv, e, hu⟩ := h
  refine pyIter_ok e hu I Q E fun oI I' x hr => ?_
  have fr := I.fresh (Nat.le_refl s.heap.objs.size)
  exact q _ [s.heap.objs.size] _ _ I' x (.one (List.mem_cons_self ..) (I.off fr).1 hr) fun c hc => by rw [List.mem_singleton.mp hc]; exact fresh_old o fr
variable (hs : Sound G r n)
include hs
theorem src_g {e : E} {it : It} (H : EnvOk G A env h₀ L n) (S : Slots G L env ns m N ρ sl) (I : Inv G h₀ L m N ρ σ s.heap s.toks) (h : srcG r e sl σ = some (it, σ')) :
    NR e ∧ Wp G A h₀ L m (eval (e.er ns) env) σ' (SrcR G σ' it) N ρ s := by
  unfold srcG at h
  obtain ⟨x, e1, h⟩ := bind_some h
  obtain ⟨t, e2, h⟩ := bind_some h
  (first | exact (no h).elim | cases h)
  exact ⟨hs.NR e1, fun Q E q => (hs.e H S I e1) Q E fun u h' tk N' ρ' I' x' r' => q u h' tk N' ρ' I' x' ⟨_, e2, r'.wk⟩⟩
end
end Mine

open PySem PySem.W PyProof.Rows PySem.Calls
namespace Mine
set_option autoImplicit false
set_option backward.match.sparseCases false
set_option linter.unusedVariables false
set_option maxRecDepth 20000

section
variable {G : St} {CT : List Cl} {GV : List (Option MV)} {r : Rec} {n : Nat} {A : Around} {env : Env} {h₀ : Heap} {L : Addr} {ns : Names} {m : Str → Option Value} {N : Led} {ρ : Rho} {s : Shared} {sl sl' : List Slot} {σ σ' : List MO} {v : MV}

/-- the global names of comprehensions -/
noncomputable def GvOk (G : St) (GV : List (Option MV)) : Prop := ∀ g x v, gnL[g]? = some x → at? GV g = some (some v) → GlbOk G x v
theorem csl_ok : ∀ {cs : List CS} {c : List Slot}, csl GV sl cs = some c → c.length = cs.length ∧ ∀ (i : Nat) (d : CS), cs[i]? = some d → ∃ x, c[i]? = some x ∧ cs1 GV sl d = some x
  | [], c, h => by (first | exact (no h).elim | cases h); exact ⟨rfl, fun i d e => by simp at e⟩
  | d :: cs, c, h => by
    unfold csl at h
    obtain ⟨x, e1, h⟩ := bind_some h
    obtain ⟨y, e2, h⟩ := bind_some h
    (first | exact (no h).elim | cases h)
    obtain ⟨g1, g2⟩ := csl_ok e2
    refine ⟨by simp [g1], fun i d' e => ?_⟩
    cases i with
    | zero => simp only [List.getElem?_cons_zero, Option.some.injEq] at e; subst e; exact ⟨x, rfl, e1⟩
    | succ i => simpa using g2 i d' (by simpa using e)
theorem relabel_at {scope : Scope} {i : Nat} {p : Str × NameKind} (nd : (scope.names.map (·.1)).Nodup) (e : scope.names[i]? = some p) :
    (relabel scope env).names.lookup p.1 = some (if (p.2 == .free && env.scope.kind == .function && env.kindOf p.1 == some .cell) then .cell else p.2) := by
  have nd' : ((relabel scope env).names.map (·.1)).Nodup := by
    have : (relabel scope env).names.map (·.1) = scope.names.map (·.1) := by
      show (scope.names.map _).map _ = _
      rw [List.map_map]
      apply List.map_congr_left
      intro q _
      show (if _ then _ else _ : Str × NameKind).1 = _
      split <;> rfl
    rw [this]; exact nd
  have e' : (relabel scope env).names[i]? = some (if (p.2 == .free && env.scope.kind == .function && env.kindOf p.1 == some .cell) then (p.1, .cell) else (p.1, p.2)) := by
    show (scope.names.map _)[i]? = _
    rw [List.getElem?_map, e]; rfl
  have := lookup_at nd' e'
  split at this <;> rename_i hc
  · rw [if_pos hc]; exact this
  · rw [if_neg hc]; exact this
/-- the slots of a comprehension -/
theorem compSlots {u w jn : Nat} {ct : CTg} {cs : List CS} {sc : Scope} {c : List Slot} {C : Addr} {f : Str → Addr} (hG : GvOk G GV) (hb : csOkB u w ct cs = true) (hsc : sc.names = nmAt u) (hw : isNid w (at? sl jn) = true) (hc : csl GV sl cs = some c)
    (hfun : env.scope.kind = .function) (S : Slots G L env ns m N ρ sl) (hCL : C ≠ L) (hf : ∀ p ∈ sc.names, p.2 = .free → env.cells.lookup p.1 = some (f p.1)) :
    Slots G L (compEnvC sc (((frees sc.names).map fun x => (x, f x)).reverse) C env) (nmAt u) m N ρ c ∧ ∀ i ∈ ct.ix, (compEnvC sc (((frees sc.names).map fun x => (x, f x)).reverse) C env).kindOf ((nmAt u).at i) = some .local ∧ i < (nmAt u).length := by
  unfold csOkB at hb
  simp only [Bool.and_eq_true] at hb
  obtain ⟨⟨⟨h1, h2⟩, h3⟩, h4⟩ := hb
  have nd := ndB2_ok h2
  obtain ⟨hl, hat⟩ := csB_ok h1
  obtain ⟨hl2, hat2⟩ := csl_ok hc
  have hns : ns = nsAt w := by
    rw [at?_eq] at hw
    cases hx : sl[jn]? with
    | none => rw [hx] at hw; cases hw
    | some x =>
      rw [hx] at hw
      cases x <;> try (cases hw; done)
      cases S.ok jn _ hx with | nid h => 
      rw [h]
      rw [Nat.eq_of_beq_eq_true hw]
  have kind : ∀ {j : Nat} {p : Str × NameKind}, (nmAt u)[j]? = some p → (compEnvC sc (((frees sc.names).map fun x => (x, f x)).reverse) C env).kindOf p.1 = some (if (p.2 == .free && env.scope.kind == .function && env.kindOf p.1 == some .cell) then .cell else p.2) :=
    fun e => relabel_at (by rw [hsc]; exact nd) (by rw [hsc]; exact e)
  have h4' : ∀ i ∈ ct.ix, cs[i]? = some .loc := fun i hi => by
    cases ct with
    | one a p =>
      rw [List.mem_singleton.mp hi]
      exact beq_iff_eq.mp h4
  refine ⟨⟨by rw [hl2, hl], nd, fun j hj => ?_, fun j x e => ?_⟩, fun i hi => ?_⟩
  · have e := List.getElem?_eq_getElem hj
    have := List.all_eq_true.mp h3 _ (List.getElem_mem hj)
    rw [at_of e]
    simp only [Bool.and_eq_true, Bool.not_eq_true'] at this
    exact this.1
  · have hj : j < cs.length := by rw [← hl2]; exact lenOk_of e
    have ed := List.getElem?_eq_getElem hj
    obtain ⟨x', q1, q2⟩ := hat2 j _ ed
    rw [e] at q1; cases q1
    obtain ⟨p, hp, ho⟩ := hat j _ ed
    have hk := kind hp
    have hmem := List.mem_of_getElem? hp
    generalize cs[j] = d at q2 ho
    cases d with
    | loc =>
      cases q2
      have hk2 : p.2 = .local := by simpa [csOne] using ho
      refine .comN hCL ?_
      rw [at_of hp, hk, hk2]; rfl
    | out j' =>
      simp only [cs1] at q2
      obtain ⟨y, e1, q2⟩ := bind_some q2
      obtain ⟨kk, e2, q2⟩ := bind_some q2
      cases q2
      simp only [csOne, Bool.and_eq_true, beq_iff_eq] at ho
      rw [at?_eq] at e1
      obtain ⟨cc, g1, g2⟩ := celOf_ok e2 (S.ok j' y e1)
      have hfx := hf p (by rw [hsc]; exact hmem) ho.1
      have hcc : f p.1 = cc := by
        rw [ho.2, ← hns, g1] at hfx
        rw [ho.2, ← hns]
        exact (Option.some.inj hfx).symm
      have hall := List.all_eq_true.mp h3 _ hmem
      simp only [Bool.and_eq_true, Bool.not_eq_true'] at hall
      refine .fre (c := cc) ?_ ?_ g2
      · rw [at_of hp, hk]
        split
        · exact .inl rfl
        · exact .inr ⟨by rw [ho.1], hall.2⟩
      · rw [at_of hp]
        show (((frees sc.names).map fun x => (x, f x)).reverse).lookup p.1 = some cc
        have hfm : p.1 ∈ frees sc.names := by
          unfold frees
          exact List.mem_map.mpr ⟨p, List.mem_filter.mpr ⟨by rw [hsc]; exact hmem, by rw [ho.1]; rfl⟩, rfl⟩
        have ndf : (frees sc.names).Nodup := by
          unfold frees
          rw [hsc]
          exact (List.filter_sublist.map _).nodup nd
        refine lookup_of_mem_nodup ?_ ?_
        · rw [List.map_reverse, List.map_map]
          have : (frees sc.names).map ((fun x : Str × Addr => x.1) ∘ fun x => (x, f x)) = frees sc.names := by
            conv => rhs; rw [← List.map_id (frees sc.names)]
            rfl
          rw [this]
          exact (List.reverse_perm _).nodup_iff.mpr ndf
        · exact List.mem_reverse.mpr (List.mem_map.mpr ⟨p.1, hfm, by rw [hcc]⟩)
    | glb g =>
      simp only [cs1] at q2
      obtain ⟨y, e1, q2⟩ := bind_some q2
      obtain ⟨w', e2, q2⟩ := bind_some q2
      cases q2
      cases y with
      | none => cases e2
      | some v' =>
        cases e2
        simp only [csOne, Bool.and_eq_true, beq_iff_eq] at ho
        refine .glb ?_ ?_
        · rw [at_of hp, hk, ho.1]; rfl
        · rw [at_of hp]; exact hG g _ _ ho.2 e1
  · obtain ⟨pi, hpi, hoi⟩ := hat i _ (h4' i hi)
    have hki : pi.2 = .local := by simpa [csOne] using hoi
    exact ⟨by rw [at_of hpi, kind hpi, hki]; rfl, lenOk_of hpi⟩

/-- what a comprehension leaves -/
noncomputable def CompK (G : St) (A : Around) (h₀ : Heap) (L : Addr) (m : Str → Option Value) (v : MV) (σ' : List MO) (N : Led) (ρ : Rho) (s : Shared) (E : Value → Shared → Prop) (use : Option (Value → Sem Unit)) (Q : Value → Shared → Prop) : Prop :=
  ∀ D C h₃ tk N₃ ρ₃ oC mc, Inv G h₀ L m N₃ ρ₃ σ' h₃ tk → ExtX G [C] N ρ N₃ ρ₃ → (∀ b ob, (b, ob) ∈ N → ∃ ox, (b, ox) ∈ N₃) → (C, oC) ∈ N₃ → C ∉ mts G ρ₃ → NsOb oC mc → Fresh N C → RV G N₃ ρ₃ (.ref D) v → compPost (model G.prog G.w) A E use Q (.ref D) C (.ok .next) { s with heap := h₃, toks := tk }
variable (hs : Sound G r n)
include hs
theorem comp_core {elt : E} {ct : CTg} {it : E} {ifs : List E} {u w jn : Nat} {cs : List CS} {sc : Scope} {p pos : Pos} {use : Option (Value → Sem Unit)} {Q : Value → Shared → Prop} {X : Value → Shared → Prop} (hG : GvOk G GV)
    (hh : csOkB u w ct cs = true ∧ sc.names = nmAt u ∧ sc.kind = .function) (H : EnvOk G A env h₀ L n) (S : Slots G L env ns m N ρ sl) (I : Inv G h₀ L m N ρ σ s.heap s.toks) (h : eComp GV r elt ct it ifs w jn cs sl σ = some (v, σ'))
    (k : CompK G A h₀ L m v σ' N ρ s X use Q) :
    wpAny (model G.prog G.w) A (comprehension (.ListComp (elt.er (nmAt u)) [⟨ct.er (nmAt u), it.er ns, E.ers (nmAt u) ifs, 0⟩] sc p) sc env pos (newList []) false (eval (it.er ns) env) use) Q X s := by
  unfold eComp at h
  obtain ⟨hw, h⟩ := cond_some h
  obtain ⟨x, e1, h⟩ := bind_some h
  obtain ⟨c, e3, h⟩ := bind_some h
  obtain ⟨y, e4, h⟩ := bind_some h
  (first | exact (no h).elim | cases h)
  obtain ⟨hb, hsc, hkind⟩ := hh
  have nd : (sc.names.map (·.1)).Nodup := by
    rw [hsc]
    unfold csOkB at hb
    simp only [Bool.and_eq_true] at hb
    exact ndB2_ok hb.1.1.2
  have hnc : ∀ q ∈ sc.names, q.2 ≠ .cell := fun q hq => by
    rw [hsc] at hq
    unfold csOkB at hb
    simp only [Bool.and_eq_true] at hb
    obtain ⟨hl, hat⟩ := csB_ok hb.1.1.1
    obtain ⟨j, hj⟩ := List.mem_iff_getElem?.mp hq
    have hj' : j < cs.length := by rw [hl]; exact lenOk_of hj
    obtain ⟨p', g1, g2⟩ := hat j _ (List.getElem?_eq_getElem hj')
    rw [hj] at g1; cases g1
    intro hc
    generalize cs[j] = d at g2
    cases d <;> simp [csOne, hc] at g2
  -- the cells of the free names
  obtain ⟨f, hf⟩ : ∃ f : Str → Addr, ∀ q ∈ sc.names, q.2 = .free → env.cells.lookup q.1 = some (f q.1) := by
    refine ⟨fun z => (env.cells.lookup z).getD 0, fun q hq hqf => ?_⟩
    rw [hsc] at hq
    have hb' := hb
    unfold csOkB at hb'
    simp only [Bool.and_eq_true] at hb'
    obtain ⟨hl, hat⟩ := csB_ok hb'.1.1.1
    obtain ⟨hl2, hat2⟩ := csl_ok e3
    obtain ⟨j, hj⟩ := List.mem_iff_getElem?.mp hq
    have hj' : j < cs.length := by rw [hl]; exact lenOk_of hj
    have ed := List.getElem?_eq_getElem hj'
    obtain ⟨p', g1, g2⟩ := hat j _ ed
    rw [hj] at g1; cases g1
    obtain ⟨z, q1, q2⟩ := hat2 j _ ed
    generalize cs[j] = d at g2 q2
    have hns : ns = nsAt w := by
      rw [at?_eq] at hw
      cases hx : sl[jn]? with
      | none => rw [hx] at hw; cases hw
      | some x =>
        rw [hx] at hw
        cases x <;> try (cases hw; done)
        cases S.ok jn _ hx with | nid h =>
        rw [h, Nat.eq_of_beq_eq_true hw]
    cases d with
    | loc => simp [csOne, hqf] at g2
    | glb g => simp [csOne, hqf] at g2
    | out j' =>
      simp only [cs1] at q2
      obtain ⟨y', r1, q2⟩ := bind_some q2
      obtain ⟨kk, r2, q2⟩ := bind_some q2
      simp only [csOne, Bool.and_eq_true, beq_iff_eq] at g2
      rw [at?_eq] at r1
      obtain ⟨cc, w1, w2⟩ := celOf_ok r2 (S.ok j' y' r1)
      rw [g2.2, ← hns]
      show _ = some ((env.cells.lookup (ns.at j')).getD 0)
      rw [w1]; rfl
  obtain ⟨t, σx⟩ := x
  obtain ⟨nr, src⟩ := src_g hs H S I e1
  have hset : ∀ z, foldedSetIterable (it.er ns) env z = pure z := fun z => by
    cases it <;> first | exact absurd rfl (nr _) | rfl
  refine wpAny_comprehension_free rfl hset (closureFor_free hf) hkind (fun q hq hl => ?_) ?_
  · obtain ⟨j, hj⟩ := List.mem_iff_getElem?.mp hq
    rw [← hl]; exact lookup_at nd hj
  refine src _ _ fun xv h₁ tk₁ N₁ ρ₁ I₁ x₁ r₁ => ?_
  refine srcIter (s := { s with heap := h₁, toks := tk₁ }) r₁ x₁.old I₁ _ _ fun aI Y h₂ N₂ I₂ x₂ hO hX => ?_
  refine newList_K (s := { s with heap := h₂, toks := tk₁ }) I₂.F I₂.W (fun D h₃ F₃ W₃ hlt => ?_)
  obtain ⟨I₃, x₃, rD⟩ := alloc1 (s := { s with heap := h₂, toks := tk₁ }) (mo := .list []) I₂ (Nat.le_refl _) F₃ W₃ (.lt hlt) (fun ρ' x => .list (ws := []) (List.mem_cons_self ..) .nil)
  refine wpAny_newFunctionEnv (s := { s with heap := h₃, toks := tk₁ }) hnc (by intro q hq; simp at hq) (fun h₄ hns₄ sb₄ => ?_) hkind
  -- the name space of the comprehension
  have hCge : h₃.objs.size ≤ h₃.objs.size := Nat.le_refl _
  have frC := I₃.fresh hCge
  obtain ⟨oC, hgC, hoC⟩ := ns_ob hns₄
  have keep₄ : ∀ b o, h₃.get? b = some o → h₄.get? b = some o := fun b o e => sb₄.extBut b o (Nat.ne_of_lt (Heap.lt_size e)) (Heap.get?_push_of_some _ e)
  have hCL : h₃.objs.size ≠ L := Nat.ne_of_gt I₃.F.ns.lt
  have hC0 : h₀.get? h₃.objs.size = none := Heap.get?_none_of_le (Nat.le_trans I₃.F.above (Nat.le_of_lt I₃.F.ns.lt))
  obtain ⟨I₄, x₄⟩ := I₃.more (Nat.le_refl _) (h' := h₄) (new := [(h₃.objs.size, oC)]) (I₃.F.keeps keep₄) (fun q hq => by
      rcases List.mem_cons.mp hq with rfl | hq
      · exact ⟨hgC, hCL, hC0⟩
      · exact ⟨keep₄ _ _ (I₃.W q hq).1, (I₃.W q hq).2⟩) (by simp) (by simpa using frC)
  have x14 := (x₁.trans (x₂.trans x₃)).trans x₄
  obtain ⟨S₄, hk⟩ := compSlots (C := h₃.objs.size) hG hb hsc hw e3 H.kind (S.mono x14) hCL hf
  have H' : EnvOk G A (compEnvC sc (((frees sc.names).map fun x => (x, f x)).reverse) h₃.objs.size env) h₀ L n := { H with kind := hkind, gl := H.gl, bi := H.bi, fr := H.fr }
  have x24 := x₃.trans x₄
  have hO₄ := hO.mono x24
  have haC : h₃.objs.size ∉ Y := fun e => by
    obtain ⟨⟨o, ho, _⟩, _⟩ := hO.rows _ e
    exact frC _ (List.mem_cons_of_mem _ ho) rfl
  have hnC : h₃.objs.size ∉ mts G (ρ₁.add (D, D)) := (I₃.off frC).1
  have hDat : (ρ₁.add (D, D)).l[σx.length]? = some (D, D) := by rw [← I₂.len]; simp [Rho.app]
  have loop : ∀ tk, tk₁ ≤ tk → codeAny (model G.prog G.w) A (.compLoop (.ListComp (elt.er (nmAt u)) [⟨ct.er (nmAt u), it.er ns, E.ers (nmAt u) ifs, 0⟩] sc p) 0 (.ref aI) (.ref D) (compEnvC sc (((frees sc.names).map fun x => (x, f x)).reverse) h₃.objs.size env))
      (compPost (model G.prog G.w) A X use Q (.ref D) h₃.objs.size) { s with heap := h₄, toks := tk } := fun tk le => by
    refine hs.co (s := { s with heap := h₄, toks := tk }) H' rfl hCL haC hk S₄ (I₄.grown le I₄.F I₄.W) hO₄ (List.mem_cons_self ..) hnC hoC hDat e4 _ fun h₅ tk₅ N₅ ρ₅ oC₅ mc₅ I₅ x₅ hm₅ ho₅ => ?_
    have x05 : ExtX G [h₃.objs.size] N ρ N₅ ρ₅ := by
      refine ⟨fun q hq hn he => ?_, ?_, x14.bb.trans x₅.bb, fun b hb => ?_, fun b ob hb he => ?_⟩
      · refine x₅.sub q (x14.sub q hq hn) (x14.off (a := q.1) (o := q.2) hq hn) fun h' => ?_
        rcases List.mem_cons.mp h' with h' | h'
        · exact he (List.mem_singleton.mpr h')
        · exact hX _ h' q hq rfl
      · obtain ⟨t1, q1⟩ := x14.pre
        obtain ⟨t2, q2⟩ := x₅.pre
        exact ⟨t1 ++ t2, by rw [q2, q1]; simp⟩
      · rcases x₅.fr b hb with h' | h'
        · exact x14.fr b h'
        · refine .inr fun o ho => ?_
          obtain ⟨o', h''⟩ := x14.old b o ho
          exact h' o' h''
      · obtain ⟨o', h''⟩ := x14.old b ob hb
        refine x₅.old b o' h'' fun h' => ?_
        rcases List.mem_cons.mp h' with h' | h'
        · exact he (List.mem_singleton.mpr h')
        · exact hX _ h' (b, ob) hb rfl
    have frN : Fresh N h₃.objs.size := fun q hq e => by
      obtain ⟨o', ho'⟩ := (x₁.trans (x₂.trans x₃)).old q.1 q.2 hq
      exact frC (q.1, o') ho' e
    refine k D h₃.objs.size h₅ tk₅ N₅ ρ₅ oC₅ mc₅ I₅ x05 (fun b ob hb => x05.old b ob hb fun h' => frN (b, ob) hb (List.mem_singleton.mp h')) hm₅ (x₅.off (List.mem_cons_self ..) hnC) ho₅ frN ?_
    obtain ⟨t2, q2⟩ := x₅.pre
    refine .ref (p := (D, D)) ?_
    rw [q2, List.getElem?_append_left (by simp [I₂.len, Rho.app])]
    exact hDat
  exact codeAny_compStart_list (loop _ (Nat.le_refl _)) (iterSelf (s := { s with heap := h₄, toks := tk₁ + 0 }) hO₄ I₄ _ _ (loop _ (Nat.le_refl _)))
end
end Mine

open PySem PySem.W PyProof.Rows PySem.Calls
namespace Mine
set_option autoImplicit false
set_option backward.match.sparseCases false
set_option linter.unusedVariables false
set_option maxRecDepth 20000

section
variable {G : St} {CT : List Cl} {GV : List (Option MV)} {r : Rec} {n : Nat} {A : Around} {env : Env} {h₀ : Heap} {L : Addr} {ns : Names} {m : Str → Option Value} {N : Led} {ρ : Rho} {s : Shared} {sl sl' : List Slot} {σ σ' : List MO} {v : MV}

theorem ext_drop {N₃ : Led} {ρ₃ : Rho} {C : Addr} (x : ExtX G [C] N ρ N₃ ρ₃) (f : Fresh N C) : Ext G N ρ (N₃.filter fun q => q.1 != C) ρ₃ := by
  have ne : ∀ q ∈ N, q.1 ∉ [C] := fun q hq h => f q hq (List.mem_singleton.mp h)
  refine ⟨fun q hq hn => List.mem_filter.mpr ⟨x.sub q hq hn (ne q hq), by simpa using f q hq⟩, x.pre, x.bb, x.fr, fun b ob hb => ?_⟩
  obtain ⟨o', h'⟩ := x.old b ob hb (ne (b, ob) hb)
  exact ⟨o', List.mem_filter.mpr ⟨h', by simpa using f (b, ob) hb⟩⟩
theorem tr_fresh {N₃ : Led} {ρ₃ : Rho} {C : Addr} (x : ExtX G [C] N ρ N₃ ρ₃) (f : Fresh N C) : Tr G N ρ N₃ ρ₃ :=
  x.tr fun a ha ob hob _ => f _ hob (List.mem_singleton.mp ha)
theorem drop_tr {N₃ : Led} {ρ₃ : Rho} {C : Addr} {oC : Obj} {mc : Str → Option Value} {tk : Nat} (I : Inv G h₀ L m N₃ ρ₃ σ s.heap s.toks) (le : s.toks ≤ tk) (hm : (C, oC) ∈ N₃) (hn : C ∉ mts G ρ₃) (ho : NsOb oC mc) {h' : Heap} (sb : Heap.SameBut C s.heap h') :
    Inv G h₀ L m (N₃.filter fun q => q.1 != C) ρ₃ σ h' tk ∧ Tr G N₃ ρ₃ (N₃.filter fun q => q.1 != C) ρ₃ := by
  obtain ⟨J, x⟩ := dropX I le hm hn ho.bad sb.extBut
  exact ⟨J, x.tr fun a ha ob hob => by rw [List.mem_singleton.mp ha] at hob; rw [nodup_row I.nd hob hm]; exact ho.bad⟩
variable (hs : Sound G r n)
include hs
theorem st_comp {elt : E} {ct : CTg} {it : E} {ifs : List E} {u w jn : Nat} {cs : List CS} {sc : Scope} {p : Pos} (hG : GvOk G GV) (hh : csOkB u w ct cs = true ∧ sc.names = nmAt u ∧ sc.kind = .function)
    (H : EnvOk G A env h₀ L n) (S : Slots G L env ns m N ρ sl) (I : Inv G h₀ L m N ρ σ s.heap s.toks) (h : eComp GV r elt ct it ifs w jn cs sl σ = some (v, σ')) :
    Wp G A h₀ L m (eval ((E.comp elt ct it ifs u w jn cs sc hh p).er ns) env) σ' (VR G v) N ρ s := by
  intro Q X q
  show wpAny _ A (eval (.ListComp (elt.er (nmAt u)) [⟨ct.er (nmAt u), it.er ns, Mine.E.ers (nmAt u) ifs, 0⟩] sc p) env) _ _ _
  rw [arm_eval_ListComp]
  refine comp_core hs hG hh H S I h fun D C h₃ tk N₃ ρ₃ oC mc I₃ x₃ old hm hn ho f rv => ?_
  refine ⟨mc, ho.ns (I₃.W _ hm).1, fun h' sb => ?_⟩
  obtain ⟨J, tr⟩ := drop_tr (s := { s with heap := h₃, toks := tk }) I₃ (Nat.le_refl _) hm hn ho sb
  exact q _ h' tk _ ρ₃ J (ext_drop x₃ f) (rv.monoT tr)
omit hs in
theorem putLoc_ok {i : Nat} {u : Value} (e : putLoc i v sl (at? sl i) = some sl') (H : EnvOk G A env h₀ L n) (S : Slots G L env ns m N ρ sl) (hu : RV G N ρ u v) (I : Inv G h₀ L m N ρ σ s.heap s.toks) (hL : env.locals = L) :
    WpS G A h₀ L env ns m (storeName env (ns.at i) u) sl' σ UR N ρ s := by
  have : putSl i v sl σ (at? sl i) = some (sl', σ) := by
    cases hq : at? sl i with
    | none => rw [hq] at e; (first | exact (no e).elim | cases e)
    | some x =>
      rw [hq] at e
      cases x <;> try ((first | exact (no e).elim | cases e); done)
      (first | exact (no e).elim | cases e); rfl
  exact store_ok this H S hu I hL
end
end Mine

open PySem PySem.W PyProof.Rows PySem.Calls
namespace Mine
set_option autoImplicit false
set_option backward.match.sparseCases false
set_option linter.unusedVariables false
set_option maxRecDepth 20000

section
variable {G : St} {CT : List Cl} {GV : List (Option MV)} {r : Rec} {n : Nat} {A : Around} {env : Env} {h₀ : Heap} {L : Addr} {ns : Names} {m : Str → Option Value} {N : Led} {ρ : Rho} {s : Shared} {sl sl' : List Slot} {σ σ' : List MO} {v : MV}

theorem mark_none (A : Around) : A.mark none = A := by
  cases A; rfl
theorem dropNone (e : Expr) (p : Pos) : dropValue e p .none = pure .next := by cases e <;> rfl
theorem notInter (H : EnvOk G A env h₀ L n) : interactive env = false := by unfold interactive; rw [H.kind]; rfl
theorem swapsEx {e : E} {l : Nat} (hn : NR e) (h : exB e = true) : swapsWith (e.er ns) none l env = pure false := by
  cases e <;> first | exact absurd rfl (hn _) | rfl | ((first | exact (no h).elim | cases h); done)
variable (hs : Sound G r n)
include hs
theorem st_asg {t : T} {e : E} {p : Pos} {fl : Fl} (H : EnvOk G A env h₀ L n) (hL : env.locals = L) (S : Slots G L env ns m N ρ sl) (I : Inv G h₀ L m N ρ σ s.heap s.toks)
    (h : cond (asgB sl t e) ((r.e e sl σ).bind fun x => (r.a t x.1 sl x.2).bind fun y => some (Fl.next, y)) none = some (fl, sl', σ')) :
    WpS G A h₀ L env ns m (exec ((Mine.S.asg t e p).er ns) env) sl' σ' (FlR G fl) N ρ s := by
  obtain ⟨hb, h⟩ := cond_some h
  obtain ⟨x, e1, h⟩ := bind_some h
  obtain ⟨y, e2, h⟩ := bind_some h
  (first | exact (no h).elim | cases h)
  have nr := hs.NR e1
  show WpS G A h₀ L env ns m (exec (.Assign [t.er ns] (e.er ns) p) env) _ _ _ _ _ _
  rw [arm_exec_Assign]
  refine WpS.stand ?_
  rw [swapsNo nr hb]
  refine WpS.bind (R := fun b _ _ => b = false) (Wp.pure I rfl) fun b h₁ tk N₁ ρ₁ I₁ x₁ r₁ => ?_
  subst r₁
  simp only [Bool.false_eq_true, if_false]
  refine WpS.bind (hs.e (s := { s with heap := h₁, toks := tk }) H (S.mono x₁) I₁ e1) fun u h₂ tk₂ N₂ ρ₂ I₂ x₂ r₂ => ?_
  rw [storesNo S nr hb]
  refine WpS.bind (R := fun b _ _ => b = none) (Wp.pure I₂ rfl) fun b h₃ tk₃ N₃ ρ₃ I₃ x₃ r₃ => ?_
  subst r₃
  show WpS G A h₀ L env ns m (assignAll u ((assignEach [t.er ns] env).map (·.2)) >>= fun _ => pure Flow.next) _ _ _ _ _ _
  rw [assignEach1]
  refine WpS.bindS (hs.a (s := { s with heap := h₃, toks := tk₃ }) H hL (S.mono ((x₁.trans x₂).trans x₃)) I₃ (r₂.mono x₃) e2) fun _ h₄ tk₄ N₄ ρ₄ m₄ I₄ x₄ S₄ _ => ?_
  exact WpS.pure I₄ S₄ rfl
theorem st_augA (hC : ClsAll G CT) {o : E} {a : Nat} {tp p : Pos} {op : Operator} {e : E} {fl : Fl} (H : EnvOk G A env h₀ L n) (hL : env.locals = L) (S : Slots G L env ns m N ρ sl) (I : Inv G h₀ L m N ρ σ s.heap s.toks) (h : sAugA CT r o a op e sl σ = some (fl, sl', σ')) :
    WpS G A h₀ L env ns m (exec ((Mine.S.augA o a tp op e p).er ns) env) sl' σ' (FlR G fl) N ρ s := by
  unfold sAugA at h
  obtain ⟨x, e1, h⟩ := bind_some h
  obtain ⟨w, e2, h⟩ := bind_some h
  obtain ⟨y, e3, h⟩ := bind_some h
  obtain ⟨z, e4, h⟩ := bind_some h
  obtain ⟨σ₅, e5, h⟩ := bind_some h
  (first | exact (no h).elim | cases h)
  show WpS G A h₀ L env ns m (exec (.AugAssign (.Attribute (o.er ns) (an a) tp) op (e.er ns) p) env) _ _ _ _ _ _
  rw [arm_exec_AugAssign_2]
  refine WpS.stand (WpS.bind (hs.e H S I e1) fun ov h₁ tk N₁ ρ₁ I₁ x₁ r₁ => ?_)
  have mid : Wp G A h₀ L m (holding [ov] do
      standAt tp.atName
      let old ← getAttr ov (an a) true
      let v ← holding [old] (eval (e.er ns) env)
      standAt p
      operate [old, v] (inplaceOp op old v)) y.2 (VR G z) N₁ ρ₁ { s with heap := h₁, toks := tk } := by
    refine Wp.hold (Wp.stand (Wp.bind (attrE_ok (s := { s with heap := h₁, toks := tk }) hC e2 r₁ I₁ H.X) fun old h₂ tk₂ N₂ ρ₂ I₂ x₂ r₂ => ?_))
    refine Wp.bind (Wp.hold (hs.e (s := { s with heap := h₂, toks := tk₂ }) H (S.mono (x₁.trans x₂)) I₂ e3)) fun u₃ h₃ tk₃ N₃ ρ₃ I₃ x₃ r₃ => ?_
    exact Wp.stand (Wp.oper (iop_ok e4 (r₂.mono x₃) r₃ I₃))
  refine WpS.bind mid fun nw h₄ tk₄ N₄ ρ₄ I₄ x₄ r₄ => ?_
  refine WpS.stand (WpS.bind (Wp.hold (putA_ok (s := { s with heap := h₄, toks := tk₄ }) hC e5 (r₁.mono x₄) r₄ I₄ H.X)) fun _ h₅ tk₅ N₅ ρ₅ I₅ x₅ _ => ?_)
  exact WpS.rel (WpS.pure I₅ (S.mono ((x₁.trans x₄).trans x₅)) rfl)
theorem st_iff {t : E} {b o : List S} {p : Pos} {fl : Fl} (H : EnvOk G A env h₀ L n) (hL : env.locals = L) (S : Slots G L env ns m N ρ sl) (I : Inv G h₀ L m N ρ σ s.heap s.toks)
    (h : ((r.t t sl σ).bind fun x => cond x.1 (r.ss b sl x.2) (r.ss o sl x.2)) = some (fl, sl', σ')) :
    WpS G A h₀ L env ns m (exec ((Mine.S.iff t b o p).er ns) env) sl' σ' (FlR G fl) N ρ s := by
  obtain ⟨x, e1, h⟩ := bind_some h
  obtain ⟨c, σ₁⟩ := x
  show WpS G A h₀ L env ns m (exec (.If (t.er ns) (Mine.S.ers ns b) (Mine.S.ers ns o) p) env) _ _ _ _ _ _
  rw [arm_exec_If]
  refine WpS.stand (WpS.bind (hs.t H S I e1) fun a h₁ tk N₁ ρ₁ I₁ x₁ r₁ => ?_)
  rw [show a = c from r₁]
  cases c with
  | true => exact hs.ss H hL (S.mono x₁) I₁ h
  | false => exact hs.ss H hL (S.mono x₁) I₁ h
theorem st_ret {e : E} {p : Pos} {fl : Fl} (H : EnvOk G A env h₀ L n) (S : Slots G L env ns m N ρ sl) (I : Inv G h₀ L m N ρ σ s.heap s.toks) (h : ((r.e e sl σ).bind fun x => some (Fl.ret x.1, sl, x.2)) = some (fl, sl', σ')) :
    WpS G A h₀ L env ns m (exec ((Mine.S.ret e p).er ns) env) sl' σ' (FlR G fl) N ρ s := by
  obtain ⟨x, e1, h⟩ := bind_some h
  (first | exact (no h).elim | cases h)
  show WpS G A h₀ L env ns m (standAt p >>= fun _ => eval (e.er ns) env >>= fun v => pure (Flow.ret v)) _ _ _ _ _ _
  exact WpS.stand (WpS.bind (hs.e H S I e1) fun u h₁ tk N₁ ρ₁ I₁ x₁ r₁ => WpS.pure I₁ (S.mono x₁) ⟨u, rfl, r₁⟩)
theorem st_ex {e : E} {p : Pos} {fl : Fl} (H : EnvOk G A env h₀ L n) (S : Slots G L env ns m N ρ sl) (I : Inv G h₀ L m N ρ σ s.heap s.toks) (h : cond (exB e) ((r.e e sl σ).bind (sEx sl)) none = some (fl, sl', σ')) :
    WpS G A h₀ L env ns m (exec ((Mine.S.ex e p).er ns) env) sl' σ' (FlR G fl) N ρ s := by
  obtain ⟨hb, h⟩ := cond_some h
  obtain ⟨x, e1, h⟩ := bind_some h
  obtain ⟨w, σ₁⟩ := x
  unfold sEx at h
  cases w <;> try ((first | exact (no h).elim | cases h); done)
  (first | exact (no h).elim | cases h)
  show WpS G A h₀ L env ns m (exec (.Expr (e.er ns) p) env) _ _ _ _ _ _
  rw [arm_exec_Expr, notInter H, swapsEx (hs.NR e1) hb]
  simp only [Bool.false_eq_true, if_false]
  refine WpS.stand (WpS.bind (R := fun b _ _ => b = false) (Wp.pure I rfl) fun b h₁ tk N₁ ρ₁ I₁ x₁ r₁ => ?_)
  subst r₁
  simp only [Bool.false_eq_true, if_false]
  refine WpS.bind (hs.e (s := { s with heap := h₁, toks := tk }) H (S.mono x₁) I₁ e1) fun u h₂ tk₂ N₂ ρ₂ I₂ x₂ r₂ => ?_
  (first | obtain ⟨_, rfl⟩ := r₂.inv | obtain rfl := r₂.inv | cases r₂)
  rw [dropNone]
  exact WpS.pure I₂ (S.mono (x₁.trans x₂)) rfl
theorem st_whl {t : E} {b : List S} {p : Pos} {fl : Fl} (H : EnvOk G A env h₀ L n) (hL : env.locals = L) (S : Slots G L env ns m N ρ sl) (I : Inv G h₀ L m N ρ σ s.heap s.toks) (h : r.wh t b sl σ = some (fl, sl', σ')) :
    WpS G A h₀ L env ns m (exec ((Mine.S.whl t b p).er ns) env) sl' σ' (FlR G fl) N ρ s := by
  show WpS G A h₀ L env ns m (exec (.While (t.er ns) (Mine.S.ers ns b) [] p) env) _ _ _ _ _ _
  rw [arm_exec_While]
  refine WpS.stand fun Q E q => wpAny_runOwn (h := none) ?_ (by intro x; cases x)
  rw [mark_none]
  exact hs.wh H hL S I h _ fun f h' tk N' ρ' m' I' x' S' r' => q f h' tk N' ρ' m' I' x' S' r'
theorem st_for {t : T} {it : E} {b : List S} {p : Pos} {fl : Fl} (H : EnvOk G A env h₀ L n) (hL : env.locals = L) (S : Slots G L env ns m N ρ sl) (I : Inv G h₀ L m N ρ σ s.heap s.toks)
    (h : ((srcG r it sl σ).bind fun x => r.fr t x.1 b sl x.2) = some (fl, sl', σ')) :
    WpS G A h₀ L env ns m (exec ((Mine.S.fr t it b p).er ns) env) sl' σ' (FlR G fl) N ρ s := by
  obtain ⟨x, e1, h⟩ := bind_some h
  obtain ⟨nr, src⟩ := src_g hs H S I (show srcG r it sl σ = some (x.1, x.2) from e1)
  have hset : ∀ z, foldedSetIterable (it.er ns) env z = pure z := fun z => by
    cases it <;> first | exact absurd rfl (nr _) | rfl
  show WpS G A h₀ L env ns m (exec (.For (t.er ns) (it.er ns) (Mine.S.ers ns b) [] p) env) _ _ _ _ _ _
  rw [arm_exec_For]
  intro Q E q
  refine wpAny_bind (wpAny_standAt (wpAny_bind (src _ _ fun u h₁ tk N₁ ρ₁ I₁ x₁ r₁ => ?_)))
  rw [hset]
  refine wpAny_bind (wpAny_pure (wpAny_bind (wpAny_standAt ?_)))
  refine wpAny_bind (wpAny_holding (srcIter (s := { s with heap := h₁, toks := tk }) r₁ x₁.old I₁ _ _ fun aI X h₃ N₃ I₃ x₃ hO hX => ?_))
  refine wpAny_runOwn (h := none) ?_ (by intro x; cases x)
  rw [mark_none]
  have x13 := x₁.trans x₃
  refine hs.fr (s := { s with heap := h₃, toks := tk }) H hL (S.mono x13) I₃ hO h _ fun f h' tk' N' ρ' m' I' x' S' r' => ?_
  refine q f h' tk' N' ρ' m' I' ⟨fun z hz hn => x'.sub z (x13.sub z hz hn) (x13.off (a := z.1) (o := z.2) hz hn) fun he => hX _ he z hz rfl, ?_, x13.bb.trans x'.bb, fun a ha => ?_, fun a o ho => ?_⟩ S' r'
  · obtain ⟨t1, q1⟩ := x13.pre
    obtain ⟨t2, q2⟩ := x'.pre
    exact ⟨t1 ++ t2, by rw [q2, q1]; simp⟩
  · rcases x'.fr a ha with h1 | h1
    · exact x13.fr a h1
    · exact .inr fun o ho => let ⟨ox, h⟩ := x13.old a o ho; h1 ox h
  · obtain ⟨ox, h⟩ := x13.old a o ho
    exact x'.old a ox h fun he => hX _ he (a, o) ho rfl
end
end Mine

open PySem PySem.W PyProof.Rows PySem.Calls
namespace Mine
set_option autoImplicit false
set_option linter.unusedVariables false
set_option maxRecDepth 20000

section
variable {G : St} {CT : List Cl} {GV : List (Option MV)} {r : Rec} {n : Nat} {A : Around} {env : Env} {h₀ : Heap} {L : Addr} {ns : Names} {m : Str → Option Value} {N : Led} {ρ : Rho} {s : Shared} {sl sl' : List Slot} {σ σ' : List MO} {v : MV}

/-! ### tuples of stores, exchanged -/
theorem ers_all (f : Expr → Bool) : ∀ es : List E, (E.ers ns es).all f = es.all fun e => f (e.er ns)
  | [] => rfl
  | e :: es => by show (f (e.er ns) && (E.ers ns es).all f) = _; rw [ers_all f es]; rfl
theorem ers_len : ∀ es : List E, (E.ers ns es).length = es.length
  | [] => rfl
  | e :: es => by show (E.ers ns es).length + 1 = _; rw [ers_len es]; rfl
theorem ncst_er : ∀ (k : Nat) (e : E), ncst k e = true → constantsAlone k (e.er ns) = false ∧ foldedForSure k (e.er ns) = false
  | 0, e, h => by (first | exact (no h).elim | cases h)
  | k + 1, e, h => by
    cases e <;> try ((first | exact (no h).elim | cases h); done)
    · rename_i es kk p
      have h' : es.any (ncst k) = true := h
      obtain ⟨e, he, h1⟩ := List.any_eq_true.mp h'
      obtain ⟨g1, g2⟩ := ncst_er k e h1
      show (E.ers ns es).all (constantsAlone k) = false ∧ (E.ers ns es).all (foldedForSure k) = false
      rw [ers_all, ers_all]
      exact ⟨List.all_eq_false.mpr ⟨e, he, by rw [g1]; simp⟩, List.all_eq_false.mpr ⟨e, he, by rw [g2]; simp⟩⟩
    · exact ⟨rfl, rfl⟩
    · rename_i e lo hi st sp p
      refine ⟨?_, rfl⟩
      show (constantsAlone k (e.er ns) && constantsAlone k (.Slice (E.ero ns lo) (E.ero ns hi) (E.ero ns st) sp)) = false
      have : constantsAlone k (.Slice (E.ero ns lo) (E.ero ns hi) (E.ero ns st) sp) = false := by cases k <;> rfl
      rw [this, Bool.and_false]
    · exact ⟨rfl, rfl⟩
    · exact ⟨rfl, rfl⟩
theorem star_no {pos : Pos} : ∀ {vs : List Expr}, (backTo pos (starEach vs env)).any (·.1) = false → (vs.any fun | .Starred .. => true | _ => false) = false
  | [], _ => rfl
  | v :: vs, h => by
    rw [List.any_cons]
    cases v with
    | Starred a b => exact absurd h (by show ¬ ((true || _) = false); simp)
    | _ => 
      first
        | (have h2 : (backTo pos (starEach vs env)).any (·.1) = false := (Bool.or_eq_false_iff.mp (show (false || (backTo pos (starEach vs env)).any (·.1)) = false from h)).2
           rw [star_no h2]; rfl)
theorem nodup_dups {α : Type} [BEq α] [LawfulBEq α] : ∀ {l : List α}, l.Nodup → l.eraseDups = l
  | [], _ => rfl
  | a :: l, h => by
    rw [List.nodup_cons] at h
    rw [List.eraseDups_cons]
    have : l.filter (fun b => !b == a) = l := by
      rw [List.filter_eq_self]
      intro b hb
      have : b ≠ a := fun e => h.1 (e ▸ hb)
      simpa using this
    rw [this, nodup_dups h.2]
theorem swp_names {is : List (Nat × Pos)} {es : List E} {tk : Nat} {tp : Pos} {ek : Nat} {ep pos : Pos} (H : EnvOk G A env h₀ L n) (S : Slots G L env ns m N ρ sl) (I : Inv G h₀ L m N ρ σ s.heap s.toks) (hL : env.locals = L)
    (hst : (backTo pos (starEach (E.ers ns es) env)).any (·.1) = false) (hb : swpB sl is es = true) (hl : allLoc sl is = true) :
    swappedStores [.Tuple (swpTs ns is) tk tp] (.Tuple (E.ers ns es) ek ep) env = pure (some (is.map fun p => ns.at p.1)) := by
  unfold swpB at hb
  simp only [Bool.and_eq_true] at hb
  obtain ⟨⟨⟨⟨h1, h2⟩, h3⟩, h4⟩, h5⟩ := hb
  have hlen : es.length = is.length := Nat.eq_of_beq_eq_true h2
  obtain ⟨e, he, g1, g2⟩ : ∃ e ∈ es, constantsAlone 8 (e.er ns) = false ∧ foldedForSure 8 (e.er ns) = false := by
    rcases Bool.or_eq_true_iff.mp h3 with h3 | h3
    · obtain ⟨e, he, hc⟩ := List.any_eq_true.mp h3
      exact ⟨e, he, ncst_er (ns := ns) 8 e hc⟩
    · obtain ⟨e, he, hc⟩ := List.any_eq_true.mp h3
      refine ⟨e, he, ?_⟩
      cases e <;> try (cases hc; done)
      rename_i i p
      replace hc : (at? sl i).isSome = true := hc
      obtain ⟨x, hx⟩ := Option.isSome_iff_exists.mp hc
      rw [at?_eq] at hx
      exact ⟨S.dbg i (S.len ▸ lenOk_of hx), rfl⟩
  have c1 : (E.ers ns es).all (foldedForSure 8) = false := by rw [ers_all]; exact List.all_eq_false.mpr ⟨e, he, by rw [g2]; simp⟩
  have c2 : (E.ers ns es).all (constantsAlone 8) = false := by rw [ers_all]; exact List.all_eq_false.mpr ⟨e, he, by rw [g1]; simp⟩
  have c3 := star_no hst
  have bk : env.blockKind = .function := by unfold Env.blockKind; rw [H.kind]; rfl
  have loc : ∀ p ∈ is, p.1 < ns.length ∧ env.kindOf (ns.at p.1) = some .local := fun p hp => by
    have := List.all_eq_true.mp hl p hp
    rw [at?_eq] at this
    cases hx : sl[p.1]? with
    | none => rw [hx] at this; cases this
    | some x =>
      rw [hx] at this
      refine ⟨S.len ▸ lenOk_of hx, ?_⟩
      cases x <;> try (cases this; done)
      cases S.ok _ _ hx with
      | locS h0 h1 => exact h1
      | locN h0 h1 => exact h1
      | comS h1 => exact h1
      | comN h0 h1 => exact h1
  have line : ∀ p ∈ is, p.2.line = lineOf is := fun p hp => Nat.eq_of_beq_eq_true (List.all_eq_true.mp h4 p hp)
  have key : ∀ l : List (Nat × Pos), (∀ p ∈ l, p ∈ is) → (swpTs ns l).filterMap (fun | .Name id pos => if (env.kindOf id == some .local && pos.line == lineOf is) = true then some id else none | _ => none) = l.map fun p => ns.at p.1 := by
    intro l
    induction l with
    | nil => intro _; rfl
    | cons p l ih =>
      intro hp
      have hp0 := hp p (List.mem_cons_self ..)
      show List.filterMap _ (.Name (ns.at p.1) p.2 :: swpTs ns l) = _
      rw [List.filterMap_cons]
      simp only [(loc p hp0).2, line p hp0, beq_self_eq_true, Bool.and_self, if_true]
      rw [ih fun q hq => hp q (List.mem_cons_of_mem _ hq)]; rfl
  have head : ((swpTs ns is).head?.map (·.pos.line)).getD 0 = lineOf is := by
    cases is with
    | nil => rfl
    | cons p ps => rfl
  have slen : (swpTs ns is).length = is.length := by
    clear key head line loc hl h1 h2 h3 h4 h5 hlen
    induction is with
    | nil => rfl
    | cons p ps ih => show (swpTs ns ps).length + 1 = _; rw [ih]; rfl
  have ed : (is.map fun p => ns.at p.1).eraseDups.length = is.length := by
    have nd : (is.map fun p => ns.at p.1).Nodup := by
      have : ∀ l : List (Nat × Pos), (∀ p ∈ l, p ∈ is) → ndB l = true → (l.map fun p => ns.at p.1).Nodup := by
        intro l
        induction l with
        | nil => intro _ _; exact List.nodup_nil
        | cons p l ih =>
          intro hp hn
          simp only [ndB, Bool.and_eq_true] at hn
          rw [List.map_cons, List.nodup_cons]
          refine ⟨fun hm => ?_, ih (fun q hq => hp q (List.mem_cons_of_mem _ hq)) hn.2⟩
          obtain ⟨q, hq, e⟩ := List.mem_map.mp hm
          have := at_inj S.nd (loc q (hp q (List.mem_cons_of_mem _ hq))).1 (loc p (hp p (List.mem_cons_self ..))).1 e
          have h7 := List.all_eq_true.mp hn.1 q hq
          rw [this] at h7
          simp at h7
      exact this is (fun _ h => h) h5
    rw [nodup_dups nd, List.length_map]
  unfold swappedStores
  simp only [slen, ers_len, hlen, bk, c1, c2, head]
  generalize hnm : List.filterMap _ (swpTs ns is) = nm
  have hnm' : nm = is.map fun p => ns.at p.1 := hnm.symm.trans (key is fun _ h => h)
  subst hnm'
  generalize hany : (E.ers ns es).any _ = st
  have hany' : st = false := hany.symm.trans c3
  subst hany'
  simp only [List.length_map, ed]
  rcases Bool.or_eq_true_iff.mp h1 with h1 | h1 <;> (rw [Nat.eq_of_beq_eq_true h1]; rfl)
theorem putLocs_ok : ∀ {is : List (Nat × Pos)} {us : List Value} {vs : List MV} {m : Str → Option Value} {N : Led} {ρ : Rho} {s : Shared} {sl sl' : List Slot}, putLocs is vs sl = some sl' → EnvOk G A env h₀ L n → env.locals = L → Slots G L env ns m N ρ sl → Inv G h₀ L m N ρ σ s.heap s.toks → RVs G N ρ us vs →
    WpS G A h₀ L env ns m (assignInOrder (is.map fun p => bindName env (ns.at p.1)) us) sl' σ UR N ρ s
  | [], us, vs, m, N, ρ, s, sl, sl', e, H, hL, S, I, hu => by
    cases vs with
    | cons _ _ => (first | exact (no e).elim | cases e)
    | nil => (first | exact (no e).elim | cases e); (first | obtain ⟨_, rfl⟩ := hu.inv | obtain rfl := hu.inv | cases hu); exact WpS.of (Wp.same' (R := UR) I trivial fun Q E q => assignInOrder_nil q) S
  | p :: is, us, vs, m, N, ρ, s, sl, sl', e, H, hL, S, I, hu => by
    cases vs with
    | nil => (first | exact (no e).elim | cases e)
    | cons v vs =>
      have hh := hu.uncons; clear hu; obtain ⟨_, _, rfl, hv, hu⟩ := hh
      unfold putLocs at e
      obtain ⟨x, e1, e⟩ := bind_some e
      intro Q E q
      rw [List.map_cons]
      refine assignInOrder_cons (wpAny_bindName ((putLoc_ok e1 H S hv I hL) _ _ fun _ h₁ tk N₁ ρ₁ m₁ I₁ x₁ S₁ _ => ?_))
      exact (putLocs_ok (s := { s with heap := h₁, toks := tk }) e H hL S₁ I₁ (hu.mono x₁)) _ _ fun _ h₂ tk₂ N₂ ρ₂ m₂ I₂ x₂ S₂ _ => q _ h₂ tk₂ N₂ ρ₂ m₂ I₂ (x₁.trans x₂) S₂ trivial
theorem RVs.reverse {ws : List Value} {xs : List MV} (h : RVs G N ρ ws xs) : RVs G N ρ ws.reverse xs.reverse := by
  induction xs generalizing ws with
  | nil => rw [h.nilv]; exact .nil
  | cons w xs ih =>
    obtain ⟨_, _, rfl, h, hs⟩ := h.uncons
    rw [List.reverse_cons, List.reverse_cons]
    exact (ih hs).append (.cons h .nil)
theorem putLocs_len : ∀ {is : List (Nat × Pos)} {vs : List MV} {sl sl' : List Slot}, putLocs is vs sl = some sl' → vs.length = is.length
  | [], vs, sl, sl', e => by
    cases vs with
    | nil => rfl
    | cons _ _ => (first | exact (no e).elim | cases e)
  | p :: is, vs, sl, sl', e => by
    cases vs with
    | nil => (first | exact (no e).elim | cases e)
    | cons v vs =>
      unfold putLocs at e
      obtain ⟨x, e1, e⟩ := bind_some e
      rw [List.length_cons, putLocs_len e, List.length_cons]
theorem assignStores_some (v : Value) (names : List Str) (stores : List (Value → Sem Unit)) : assignStores env v (some names) stores = (do
    rule "assign.swapped-stores"
    let items ← unpackItems v names.length none
    assignInOrder (names.reverse.map fun n => bindName env n) items.reverse
    pure .next) := rfl
variable (hs : Sound G r n)
include hs
theorem st_swp {is : List (Nat × Pos)} {tk : Nat} {tp : Pos} {es : List E} {ek : Nat} {ep p : Pos} {fl : Fl} (H : EnvOk G A env h₀ L n) (hL : env.locals = L) (S : Slots G L env ns m N ρ sl) (I : Inv G h₀ L m N ρ σ s.heap s.toks)
    (h : cond (swpB sl is es && allLoc sl is) (sSwp r is es sl σ) none = some (fl, sl', σ')) :
    WpS G A h₀ L env ns m (exec ((Mine.S.swp is tk tp es ek ep p).er ns) env) sl' σ' (FlR G fl) N ρ s := by
  obtain ⟨hb, h⟩ := cond_some h
  obtain ⟨hb, hl⟩ := Bool.and_eq_true_iff.mp hb
  unfold sSwp at h
  obtain ⟨x, e1, h⟩ := bind_some h
  obtain ⟨y, e2, h⟩ := bind_some h
  (first | exact (no h).elim | cases h)
  have sw := swp_names (tk := tk) (tp := tp) (ek := ek) (ep := ep) (pos := p) H S I hL (hs.esn e1) hb hl
  show WpS G A h₀ L env ns m (exec (.Assign [.Tuple (swpTs ns is) tk tp] (.Tuple (E.ers ns es) ek ep) p) env) _ _ _ _ _ _
  rw [arm_exec_Assign]
  refine WpS.stand ?_
  have h0 : swapsWithSole [.Tuple (swpTs ns is) tk tp] (.Tuple (E.ers ns es) ek ep) p.line env = pure false := rfl
  rw [h0, sw]
  refine WpS.bind (R := fun b _ _ => b = false) (Wp.pure I rfl) fun b h₁ tk₁ N₁ ρ₁ I₁ x₁ r₁ => ?_
  subst r₁
  simp only [Bool.false_eq_true, if_false]
  have hlen : x.1.length = is.length := by have := putLocs_len e2; simpa using this
  have hz : is.length ≤ 3 := by
    unfold swpB at hb
    simp only [Bool.and_eq_true] at hb
    rcases Bool.or_eq_true_iff.mp hb.1.1.1.1 with h | h <;> (rw [Nat.eq_of_beq_eq_true h]; decide)
  have tup : Wp G A h₀ L m (eval (.Tuple (E.ers ns es) ek ep) env) x.2 (VR G (.tup (x.1.map MV.wk))) N₁ ρ₁ { s with heap := h₁, toks := tk₁ } := by
    refine st_tup (k := ek) (p := ep) hs H (S.mono x₁) I₁ ?_
    rw [e1]
    show cond (lenOk x.1.length) (some (MV.tup (x.1.map MV.wk), x.2)) none = _
    have : lenOk x.1.length = true := by rw [hlen]; exact Nat.ble_eq_true_of_le (Nat.le_trans hz (by decide))
    rw [this]; rfl
  refine WpS.bind tup fun u h₂ tk₂ N₂ ρ₂ I₂ x₂ r₂ => ?_
  refine WpS.bind (R := fun b _ _ => b = some (is.map fun p => ns.at p.1)) (Wp.pure I₂ rfl) fun b h₃ tk₃ N₃ ρ₃ I₃ x₃ r₃ => ?_
  subst r₃
  obtain ⟨t, ws, rfl, ht, hr⟩ := rv_tup (s := { s with heap := h₃, toks := tk₃ }) (r₂.mono x₃) I₃ H.X
  have hws : ws.length = is.length := by rw [hr.length, List.length_map, hlen]
  intro Q X q
  rw [assignStores_some]
  refine wpAny_bind (wpAny_rule (wpAny_bind ?_))
  have hn : (is.map fun p => ns.at p.1).length = ws.toArray.size := by simp [hws]
  rw [hn]
  refine unpackItems_tuple (s := { s with heap := h₃, toks := tk₃ }) H.hd ht fun h₄ xb => ?_
  have F₄ := I₃.F.extBut xb (Nat.le_refl _)
  have W₄ := I₃.W.extBut xb (Nat.le_refl _)
  have I₄ := I₃.grown (Nat.le_refl _) F₄ W₄
  have e3 : (is.map fun p => ns.at p.1).reverse.map (fun n => bindName env n) = is.reverse.map fun p => bindName env (ns.at p.1) := by
    rw [← List.map_reverse, List.map_map]; rfl
  rw [e3]
  refine wpAny_bind ((putLocs_ok (s := { s with heap := h₄, toks := tk₃ }) e2 H hL (S.mono ((x₁.trans x₂).trans x₃)) I₄ hr.reverse) _ _ fun _ h₅ tk₅ N₅ ρ₅ m₅ I₅ x₅ S₅ _ => ?_)
  exact wpAny_pure (q .next h₅ tk₅ N₅ ρ₅ m₅ I₅ x₅ S₅ rfl)
end
end Mine

open PySem PySem.W PyProof.Rows PySem.Calls
namespace Mine
set_option autoImplicit false
set_option backward.match.sparseCases false
set_option linter.unusedVariables false
set_option maxRecDepth 20000

/-! ## calls of the program's own functions -/
noncomputable def FsOk (G : St) (cd : Cd) (ns : Names) (i : Nat) : FS → Prop
  | .loc => cd.scope.names.lookup (ns.at i) = some .local
  | .glb v => cd.scope.names.lookup (ns.at i) = some .globalImplicit ∧ GlbOk G (ns.at i) v
  | .nst _ _ _ => True
  | .nid w => ns = nsAt w
  | .unk => True
structure FnOk (G : St) (cd : Cd) (ns : Names) (fn : Fn) : Prop where
  body : S.ers ns fn.body = cd.body
  kind : cd.scope.kind = .function
  co : cd.scope.isCoroutine = false
  gen : cd.scope.isGenerator = false
  nd : (ns.map (·.1)).Nodup
  ndc : (cd.scope.names.map (·.1)).Nodup
  dbg : ∀ i < ns.length, (ns.at i == ("__debug__" : Str)) = false
  len : fn.slots.length = ns.length
  slots : ∀ i f, fn.slots[i]? = some f → FsOk G cd ns i f
  cells : ∀ x ∈ cd.scope.names, x.2 ≠ .cell
  bind : ∀ (doc pm : Value) (an : Option Addr) (cdv ct : Value) (vals : List Value), vals.length = fn.np →
    bindArgs (fnX cd.name cd.qual cd.params cd.body cd.scope [] .none .none doc pm an cdv ct) ⟨vals, []⟩ = pure (((ns.take fn.np).map (·.1)).zip vals)
/-- the slot that stands for one as a function is entered -/
noncomputable def SlR (as : List MV) (np i : Nat) (f : FS) (x : Slot) : Prop :=
  if i < np then f = .loc ∧ ∃ v, as[i]? = some v ∧ x = .loc (some v) else match f with
    | .loc => x = .loc none
    | .glb v => x = .glb v
    | .nst i k js => x = .nst i k js
    | .nid w => x = .nid w
    | .unk => x = .unk
theorem mkSl_ok : ∀ {fs : List FS} {np : Nat} {as : List MV} {sl : List Slot}, mkSl np fs as = some sl →
    sl.length = fs.length ∧ as.length = np ∧ np ≤ fs.length ∧ ∀ i f, fs[i]? = some f → ∃ x, sl[i]? = some x ∧ SlR as np i f x
  | [], np, as, sl, h => by
    cases np with
    | succ n => exact (no h).elim
    | zero =>
      cases as with
      | cons _ _ => exact (no h).elim
      | nil => cases h; exact ⟨rfl, rfl, Nat.le_refl _, fun i f e => by simp at e⟩
  | f :: fs, np, as, sl, h => by
    cases np with
    | succ n =>
      cases as with
      | nil => cases f <;> exact (no h).elim
      | cons v vs =>
        cases f <;> try exact (no h).elim
        obtain ⟨sl₁, e, h⟩ := bind_some (show (mkSl n fs vs).bind (con (.loc (some v))) = some sl from h)
        cases h
        obtain ⟨g2, g3, g4, g5⟩ := mkSl_ok e
        refine ⟨by simp [g2], by simp [g3], by simp; exact g4, fun i f e => ?_⟩
        cases i with
        | zero =>
          cases e
          refine ⟨_, rfl, ?_⟩
          unfold SlR; rw [if_pos (Nat.succ_pos _)]; exact ⟨rfl, v, rfl, rfl⟩
        | succ i =>
          obtain ⟨x, q1, q2⟩ := g5 i f (by simpa using e)
          refine ⟨x, by simpa using q1, ?_⟩
          unfold SlR at q2 ⊢
          by_cases hi : i < n
          · rw [if_pos hi] at q2; rw [if_pos (Nat.succ_lt_succ hi)]
            obtain ⟨a, v', b, c⟩ := q2
            exact ⟨a, v', by simpa using b, c⟩
          · rw [if_neg hi] at q2; rw [if_neg (fun h => hi (Nat.lt_of_succ_lt_succ h))]; exact q2
    | zero =>
      have done : ∀ {x : Slot}, (mkSl 0 fs as).bind (con x) = some sl → SlR as 0 0 f x → sl.length = (f :: fs).length ∧ as.length = 0 ∧ 0 ≤ (f :: fs).length ∧ ∀ i g, (f :: fs)[i]? = some g → ∃ x, sl[i]? = some x ∧ SlR as 0 i g x := by
        intro x h hx
        obtain ⟨sl₁, e, h⟩ := bind_some h
        cases h
        obtain ⟨g2, g3, g4, g5⟩ := mkSl_ok e
        refine ⟨by simp [g2], g3, Nat.zero_le _, fun i g e => ?_⟩
        cases i with
        | zero => cases e; exact ⟨_, rfl, hx⟩
        | succ i =>
          obtain ⟨x, q1, q2⟩ := g5 i g (by simpa using e)
          exact ⟨x, by simpa using q1, q2⟩
      cases f <;> exact done h rfl
theorem lookup_gen {β : Type} : ∀ {l : List (Str × β)} {x : Str} {b : β}, (l.map (·.1)).Nodup → (x, b) ∈ l → l.lookup x = some b
  | [], _, _, _, h => nomatch h
  | (y, c) :: l, x, b, nd, h => by
    rw [List.map_cons, List.nodup_cons] at nd
    rcases List.mem_cons.mp h with e | h
    · (first | exact (no e).elim | cases e); rw [List.lookup_cons, beq_self_eq_true]
    · have : (x == y) = false := by
        rw [beq_eq_false_iff_ne]
        intro e
        exact nd.1 (e ▸ List.mem_map_of_mem (f := (·.1)) h)
      rw [List.lookup_cons, this]
      exact lookup_gen nd.2 h

section
variable {G : St} {CT : List Cl} {GV : List (Option MV)} {r : Rec} {n : Nat} {A : Around} {env : Env} {h₀ : Heap} {L : Addr} {ns : Names} {m : Str → Option Value} {N : Led} {ρ : Rho} {s : Shared} {sl sl' : List Slot} {σ σ' : List MO} {v : MV}

theorem callFn_ok (hs : Sound G r n) {cd : Cd} {fn : Fn} (F : FnOk G cd ns fn) {as : List MV} {vs : List Value} {f : Addr} {fo : Obj} {doc pm cdv ct : Value} {an : Option Addr}
    (H : EnvOk G A env h₀ L (n + 1)) (I : Inv G h₀ L m N ρ σ s.heap s.toks) (ho : s.heap.get? f = some fo) (hd : fo.data = .func (fnX cd.name cd.qual cd.params cd.body cd.scope [] .none .none doc pm an cdv ct)) (hcd : s.heap.CodeRec cdv cd.qual)
    (nest : ∀ i k js, FS.nst i k js ∈ fn.slots → ∀ L', NestOk G (envX cd.qual cd.scope L' f cdv []) ns i k js) (hvs : RVs G N ρ vs as) (h : callFn r fn as σ = some (v, σ')) (P : Result → Shared → Prop)
    (k : ∀ u h' tk N' ρ', Inv G h₀ L m N' ρ' σ' h' tk → Ext G N ρ N' ρ' → RV G N' ρ' u v → P (.ok (.ret u)) { s with heap := h', toks := tk }) :
    codeAny (model G.prog G.w) A (.call (.ref f) ⟨vs, []⟩) P s := by
  unfold callFn at h
  obtain ⟨x, e1, h⟩ := bind_some h
  obtain ⟨y, e2, h⟩ := bind_some h
  obtain ⟨f1, sl₂, σ₂⟩ := y
  obtain ⟨q2, q3, q4, q5⟩ := mkSl_ok e1
  obtain ⟨A₀, base, outer, fe, B, hA, hf, hke⟩ := H.B
  have hlen : vs.length = fn.np := by rw [hvs.length, q3]
  have hnd : (((ns.take fn.np).map (·.1)).zip vs |>.map (·.1)).Nodup := by
    rw [List.map_fst_zip (by simp [hlen]; exact Nat.min_le_left _ _)]
    rw [List.map_take]
    exact (List.take_sublist _ _).nodup F.nd
  have mem : ∀ i u, i < fn.np → vs[i]? = some u → (ns.at i, u) ∈ ((ns.take fn.np).map (·.1)).zip vs := fun i u hi hu => by
    refine List.mem_of_getElem? (i := i) ?_
    have hin : i < ns.length := by rw [← F.len]; omega
    rw [List.getElem?_zip_eq_some]
    refine ⟨?_, hu⟩
    rw [List.map_take, List.getElem?_take, if_pos hi]
    unfold Names.at
    rw [List.getD_eq_getElem?_getD, List.getElem?_eq_getElem (by simpa using hin)]; rfl
  refine callX_plain (cl := []) B I.F I.W H.lim hA hf hke ho hd hcd (Nat.lt_of_le_of_lt (by omega) H.dep) (BindsTo.of_eq (F.bind doc pm an cdv ct vs hlen)) (fun z hz => ?_) (fun g L' h₁ FG F' W' B' st lt => ?_) F.cells F.co F.gen F.kind
  · obtain ⟨i, hi⟩ := List.mem_iff_getElem?.mp hz
    rw [List.getElem?_zip_eq_some] at hi
    obtain ⟨hi1, hi2⟩ := hi
    have hin : i < fn.np := by rw [← hlen]; exact lenOk_of hi2
    have hin2 : i < fn.slots.length := by omega
    obtain ⟨x, w1, w2⟩ := q5 i _ (List.getElem?_eq_getElem hin2)
    unfold SlR at w2
    rw [if_pos hin] at w2
    have fs := F.slots i _ (List.getElem?_eq_getElem hin2)
    rw [w2.1] at fs
    have : ns.at i = z.1 := by
      unfold Names.at
      rw [List.map_take, List.getElem?_take, if_pos hin] at hi1
      rw [List.getD_eq_getElem?_getD, hi1]; rfl
    rw [← this]; exact fs
  · have T' : ∃ p loose mean mg mb, Top p loose mean mg mb g := let ⟨p, loose, mean, mg, mb, T⟩ := H.T; ⟨p, loose, mean, mg, mb, T.keeps st⟩
    have H' : EnvOk G (A.deeper (envX cd.qual cd.scope L' f cdv [])) (envX cd.qual cd.scope L' f cdv []) g L' n :=
      { kind := F.kind, gl := rfl, bi := rfl, fr := rfl, X := H.X.keeps st, T := T', hd := H.hd,
        B := ⟨A, base, fe :: outer, envX cd.qual cd.scope L' f cdv [], B', Around.frames_deeper B'.stack, rfl, F.kind⟩,
        tabs := fun t ht => (H.tabs t ht).keeps st,
        bls := fun p hp => let ⟨o, ho, r⟩ := H.bls p hp; ⟨o, st _ _ ho, r⟩,
        dep := by have := H.dep; show A.depth + 1 + n < _; omega,
        uni := by have := H.uni; show A.units + 3 + 8 * n + 100 < _; omega }
    have I' : Inv G g L' (fun y => (((ns.take fn.np).map (·.1)).zip vs).reverse.lookup y) N ρ σ h₁ (s.toks + (((ns.take fn.np).map (·.1)).zip vs).length) := ⟨F', W', I.nd, I.len, I.ap, I.so, I.tb, I.bk.mono (Nat.le_add_right _ _), I.fz⟩
    have S' : Slots G L' (envX cd.qual cd.scope L' f cdv []) ns (fun y => (((ns.take fn.np).map (·.1)).zip vs).reverse.lookup y) N ρ x := by
      refine ⟨by rw [q2, F.len], F.nd, F.dbg, fun i z e => ?_⟩
      have hi : i < fn.slots.length := by rw [← q2]; exact lenOk_of e
      obtain ⟨x', w1, w2⟩ := q5 i _ (List.getElem?_eq_getElem hi)
      rw [e] at w1; cases w1
      have fs := F.slots i _ (List.getElem?_eq_getElem hi)
      have hmem := List.getElem_mem hi
      generalize fn.slots[i] = d at w2 fs hmem
      unfold SlR at w2
      by_cases hin : i < fn.np
      · rw [if_pos hin] at w2
        obtain ⟨rfl, u, hu, rfl⟩ := w2
        obtain ⟨uv, hv, rv⟩ := hvs.at hu
        refine .locS rfl fs ?_ rv
        refine lookup_gen ?_ (List.mem_reverse.mpr (mem i uv hin hv))
        rw [List.map_reverse]
        exact (List.reverse_perm _).nodup_iff.mpr hnd
      · rw [if_neg hin] at w2
        cases d with
        | loc => subst w2; exact .locN rfl fs
        | glb w => subst w2; exact .glb fs.1 fs.2
        | nst i' k' js => subst w2; exact .nst (nest i' k' js hmem L')
        | nid w => subst w2; exact .nid fs
        | unk => subst w2; exact .unk
    have run := hs.ss (s := { s with heap := h₁, toks := s.toks + (((ns.take fn.np).map (·.1)).zip vs).length }) H' rfl S' I' e2
    rw [F.body] at run
    refine run _ _ fun fl h₂ tk₂ N₂ ρ₂ m₂ I₂ x₂ S₂ r₂ => ?_
    have fin : ∀ u, RV G N₂ ρ₂ u v → σ₂ = σ' → LeaveK h₀ L m g P u { s with heap := h₂, toks := tk₂ } := fun u ru e => by
      subst e
      exact leaveK_ I₂.F I₂.W fun F₃ W₃ => k u h₂ tk₂ N₂ ρ₂ ⟨F₃, W₃, I₂.nd, I₂.len, I₂.ap, I₂.so, I₂.tb, I₂.bk, I₂.fz⟩ x₂ ru
    unfold retN at h
    cases f1 with
    | next =>
      (first | exact (no h).elim | cases h)
      rw [show fl = .next from r₂]
      exact fin _ .none rfl
    | brk => (first | exact (no h).elim | cases h)
    | ret w =>
      (first | exact (no h).elim | cases h)
      obtain ⟨u, rfl, ru⟩ := r₂
      exact fin u ru rfl
end
end Mine

open PySem PySem.W PyProof.Rows PySem.Calls
namespace Mine
set_option autoImplicit false
set_option backward.match.sparseCases false
set_option linter.unusedVariables false
set_option maxRecDepth 20000

/-- answers that were had before -/
noncomputable def MemoOk (G : St) (mm : Nat → List MV → List MO → Option ((MV × List MO) × Nat)) : Prop := ∀ k as σ p, mm k as σ = some p → keepIn G.K (.ref (G.FA k)) = true ∧
  ∀ {A : Around} {env : Env} {h₀ : Heap} {L : Addr} {m : Str → Option Value} {N : Led} {ρ : Rho} {s : Shared} {vs : List Value}, EnvOk G A env h₀ L p.2 → Inv G h₀ L m N ρ σ s.heap s.toks → RVs G N ρ vs as →
    ∀ (P : Result → Shared → Prop), (∀ u h' tk N' ρ', Inv G h₀ L m N' ρ' p.1.2 h' tk → Ext G N ρ N' ρ' → RV G N' ρ' u p.1.1 → P (.ok (.ret u)) { s with heap := h', toks := tk }) → codeAny (model G.prog G.w) A (.call (.ref (G.FA k)) ⟨vs, []⟩) P s
structure FnAt1 (G : St) (k : Nat) (fn : Fn) (cd : Cd) (ns : Names) (oc : Value) (od : Option Addr) (osl : Array (Option Value)) (doc pm : Value) (an : Option Addr) (cdv ct : Value) : Prop where
  ok : FnOk G cd ns fn
  at_ : G.K.lookup (G.FA k) = some ⟨oc, od, .func (fnX cd.name cd.qual cd.params cd.body cd.scope [] .none .none doc pm an cdv ct), osl⟩
  code : codeIn G.K cdv cd.qual = true
  nst : ∀ i k' js, FS.nst i k' js ∈ fn.slots → ∀ L', NestOk G (envX cd.qual cd.scope L' (G.FA k) cdv []) ns i k' js
  keep : keepIn G.K (.ref (G.FA k)) = true
structure Static (G : St) (FT : List Fn) (CT : List Cl) (GV : List (Option MV)) : Prop where
  hT : (G.TB.map (·.P)).Nodup
  hC : ClsAll G CT
  hG : GvOk G GV
  fn : ∀ k fn, at? FT k = some fn → ∃ cd ns oc od osl doc pm an cdv ct, FnAt1 G k fn cd ns oc od osl doc pm an cdv ct
  cls : ∀ k c, at? CT k = some c → keepIn G.K (.ref (G.CA k)) = true
  lam : ∀ k c, lamOf k = some c → ∃ x, (∀ (pm cdv ct u : Value), bindArgs (kla_fn (cdAt k).name (cdAt k).qual (cdAt k).params (lamX c) (cdAt k).scope [] pm cdv ct) ⟨[u], []⟩ = pure [(x, u)]) ∧ (cdAt k).scope.names.lookup x = some .local ∧ (cdAt k).scope.isCoroutine = false ∧ (cdAt k).scope.isGenerator = false ∧ (cdAt k).scope.kind = .function ∧ ∀ z ∈ (cdAt k).scope.names, z.2 ≠ .cell

section
variable {G : St} {FT : List Fn} {CT : List Cl} {GV : List (Option MV)} {mm : Nat → List MV → List MO → Option ((MV × List MO) × Nat)} {r : Rec} {n : Nat} {A : Around} {env : Env} {h₀ : Heap} {L : Addr} {ns : Names} {m : Str → Option Value} {N : Led} {ρ : Rho} {s : Shared} {sl sl' : List Slot} {σ σ' : List MO} {v : MV}

theorem st_callF (Z : Static G FT CT GV) (hM : MemoOk G mm) (hs : Sound G r n) {k : Nat} {as : List MV} {vs : List Value} (H : EnvOk G A env h₀ L (n + 1)) (I : Inv G h₀ L m N ρ σ s.heap s.toks) (hvs : RVs G N ρ vs as) (h : callK FT r k as σ (mm k as σ) = some (v, σ')) (P : Result → Shared → Prop)
    (q : ∀ u h' tk N' ρ', Inv G h₀ L m N' ρ' σ' h' tk → Ext G N ρ N' ρ' → RV G N' ρ' u v → P (.ok (.ret u)) { s with heap := h', toks := tk }) : codeAny (model G.prog G.w) A (.call (.ref (G.FA k)) ⟨vs, []⟩) P s := by
  cases hm : mm k as σ with
  | some p =>
    rw [hm] at h
    simp only [callK, memoN] at h
    obtain ⟨hb, h⟩ := cond_some h
    obtain ⟨⟨pv, pσ⟩, pn⟩ := p
    (first | exact (no h).elim | cases h)
    have hb := Nat.le_of_ble_eq_true hb
    rw [hs.num] at hb
    exact (hM k as σ _ hm).2 (H.le (Nat.le_succ_of_le hb)) I hvs P q
  | none =>
    rw [hm] at h
    simp only [callK] at h
    obtain ⟨fn, e1, h⟩ := bind_some h
    obtain ⟨cd, ns, oc, od, osl, doc, pm, an, cdv, ct, F⟩ := Z.fn k fn e1
    have ho := I.F.keep _ _ (H.X _ _ F.at_)
    exact callFn_ok hs F.ok H I ho rfl ((codeRec_of H.X F.code).keeps I.F.keep) F.nst hvs h P q
theorem st_call1 (Z : Static G FT CT GV) (hM : MemoOk G mm) (hs : Sound G r n) {f : MV} {as : List MV} {vf : Value} {vs : List Value} (H : EnvOk G A env h₀ L (n + 1)) (I : Inv G h₀ L m N ρ σ s.heap s.toks) (hf : RV G N ρ vf f) (hvs : RVs G N ρ vs as) (h : stepCall FT CT mm r f as σ = some (v, σ')) :
    Wp G A h₀ L m (call vf vs) σ' (VR G v) N ρ s := by
  cases f <;> try ((first | exact (no h).elim | cases h); done)
  · -- fn
    (first | obtain ⟨_, rfl⟩ := hf.inv | obtain rfl := hf.inv | cases hf)
    exact fun Q E q => wpAny_call (st_callF Z hM hs H I hvs h _ fun u h' tk N' ρ' I' x' r' => q u h' tk N' ρ' I' x' r')
  · -- cls
    rename_i k
    (first | obtain ⟨_, rfl⟩ := hf.inv | obtain rfl := hf.inv | cases hf)
    simp only [stepCall] at h
    obtain ⟨c, e1, h⟩ := bind_some h
    unfold callCl at h
    obtain ⟨fi, e2, h⟩ := bind_some h
    obtain ⟨y, e3, h⟩ := bind_some h
    have C := Z.hC.ok k c e1
    obtain ⟨g1, g2, g3⟩ := C.make fi e2
    intro Q E q
    refine wpAny_call (make_K I.F I.W (H.X.keeps I.F.keep) g1 g2 g3 fun x dx h' F' W' lt1 lt2 => ?_)
    have fr1 : Fresh N dx := .lt lt1
    have fr2 : Fresh N x := .lt fun z hz => Nat.lt_trans (lt1 z hz) lt2
    have J := I.alloc (Nat.le_refl _) (new := [(x, instObj (G.CA k) dx), (dx, emptyDict)]) (p := (x, dx)) (mo := .inst k []) F' (by simpa using W') (by simp; exact Nat.ne_of_gt lt2) (fun z hz => by
      rcases List.mem_cons.mp hz with rfl | hz
      · exact fr2
      · rw [List.mem_singleton.mp hz]; exact fr1) fr2 fr1 (fun ρ' x' => .inst (n := 0) (by simp) (List.mem_append_left _ (List.mem_cons_of_mem _ (List.mem_singleton.mpr rfl))) .nil)
    have H' : EnvOk G (A.under (.builtin "type.__call__" ⟨.ref (G.CA k) :: vs, []⟩)) env h₀ L n :=
      { kind := H.kind, gl := H.gl, bi := H.bi, fr := H.fr, X := H.X, T := H.T, hd := H.hd, B := H.B, tabs := H.tabs, bls := H.bls,
        dep := by have := H.dep; show A.depth + 1 + n < _; omega,
        uni := by have := H.uni; show A.units + 1 + 8 * n + 100 < _; omega }
    refine hs.callF (s := { s with heap := h' }) H' J.1 (.cons (.ref (p := (x, dx)) (by rw [← I.len]; simp [Rho.app])) (hvs.mono J.2)) e3 _ fun u h₂ tk₂ N₂ ρ₂ I₂ x₂ r₂ => ?_
    unfold iniN at h
    split at h
    · rename_i hn
      (first | exact (no h).elim | cases h)
      rw [hn] at r₂
      (first | obtain ⟨_, rfl⟩ := r₂.inv | obtain rfl := r₂.inv | cases r₂)
      refine ⟨rfl, q _ h₂ tk₂ N₂ ρ₂ I₂ (J.2.trans x₂) (.ref (p := (x, dx)) (x₂.get (by rw [← I.len]; simp [Rho.app])))⟩
    · (first | exact (no h).elim | cases h)
  · -- bi
    rename_i b
    have : vf = biV b := by (first | obtain ⟨_, rfl⟩ := hf.inv | obtain rfl := hf.inv | cases hf); rfl
    subst this
    exact biCall_ok h hvs I H.X H.hd
  · -- lam
    rename_i k
    replace h : (lamOf k).bind (fun c => lamC c.1 as σ) = some (v, σ') := h
    obtain ⟨c, e1, h⟩ := bind_some h
    cases hf with | lam h0 h1 h2 h3 h4 h5 h6 =>
    rw [e1] at h0
    cases h0
    match as, hvs, h with
    | [], _, h => exact (no h).elim
    | _ :: _ :: _, _, h => exact (no h).elim
    | [a1], hvs, h =>
    obtain ⟨u, us, rfl, hu, hus⟩ := hvs.uncons
    obtain rfl := hus.nilv
    cases h
    obtain ⟨x, b1, b2, b3, b4, b5, b6⟩ := Z.lam k c e1
    obtain ⟨A₀, base, outer, fe, B, hA, hfr, hke⟩ := H.B
    obtain ⟨p, loose, mean, mg, mb, T⟩ := H.T
    intro Q E q
    refine wpAny_call (kla_code B I.F H.X I.W T hA hfr hke h1 (codeRec_news I.W h3 h5 h6) (Nat.lt_of_le_of_lt (by omega) H.dep) (b1 _ _ _ _) (fun y hy => by rw [List.mem_singleton.mp hy]; exact b2) (fun g L' h₁ FG F' W' B' X' T' => ?_) b3 b4 b5 b6)
    have I' : Inv G g L' (fun y => ([(x, u)] : List (Str × Value)).reverse.lookup y) N ρ σ h₁ (s.toks + 1) := ⟨F', W', I.nd, I.len, I.ap, I.so, I.tb, I.bk.mono (Nat.le_add_right _ _), I.fz⟩
    refine const_ok (s := { s with heap := h₁, toks := s.toks + 1 }) c.1 I' _ _ fun w h₂ tk₂ N₂ ρ₂ I₂ x₂ r₂ => ?_
    exact leaveK_ I₂.F I₂.W fun F₃ W₃ => q w h₂ tk₂ N₂ ρ₂ ⟨F₃, W₃, I₂.nd, I₂.len, I₂.ap, I₂.so, I₂.tb, I₂.bk, I₂.fz⟩ x₂ r₂
theorem st_keep (Z : Static G FT CT GV) (hM : MemoOk G mm) {f : MV} {as : List MV} {vf : Value} {y : MV × List MO} (H : EnvOk G A env h₀ L n) (I : Inv G h₀ L m N ρ σ' s.heap s.toks) (hf : RV G N ρ vf f) (h : stepCall FT CT mm r f as σ = some y) :
    ∃ k, (k = Keeper.frame ∨ k = Keeper.machine ∨ k = Keeper.boundFrame) ∧ Looks (model G.prog G.w) s.heap (keeperOf vf) k := by
  have X := H.X.keeps I.F.keep
  cases f <;> try ((first | exact (no h).elim | cases h); done)
  · rename_i k
    (first | obtain ⟨_, rfl⟩ := hf.inv | obtain rfl := hf.inv | cases hf)
    simp only [stepCall] at h
    cases hm : mm k as σ with
    | some p => exact keeps_K (hM k as σ p hm).1 _ X
    | none =>
      rw [hm] at h
      simp only [callK] at h
      obtain ⟨fn, e1, h⟩ := bind_some h
      obtain ⟨cd, ns, oc, od, osl, doc, pm, an, cdv, ct, F⟩ := Z.fn k fn e1
      exact keeps_K F.keep _ X
  · rename_i k
    (first | obtain ⟨_, rfl⟩ := hf.inv | obtain rfl := hf.inv | cases hf)
    simp only [stepCall] at h
    obtain ⟨c, e1, h⟩ := bind_some h
    exact keeps_K (Z.cls k c e1) _ X
  · rename_i b
    have : vf = biV b := by (first | obtain ⟨_, rfl⟩ := hf.inv | obtain rfl := hf.inv | cases hf); rfl
    subst this
    exact machine_looks _ _ (by cases b <;> simp [biV])
  · cases hf with | lam h0 h1 h2 =>
    exact keeps_F _ (FnAt.of I.W h1)
/-- the interpreter tells what the program does -/
theorem sound_step (Z : Static G FT CT GV) (hM : MemoOk G mm) (hs : Sound G r n) : Sound G (step FT CT GV mm r) (n + 1) where
  num := by show r.n + 1 = _; rw [hs.num]
  nr _ _ _ := rfl
  e {A env h₀ L ns m N ρ s e sl σ σ' v} H S I h := by
    have H' := H.down
    cases e with
    | name i p => exact name_ok h H S I
    | cst c k p => (first | exact (no h).elim | cases h); exact const_ok c I
    | tup es k p => exact st_tup hs H' S I h
    | list es p => exact st_list hs H' S I h
    | dict0 p => (first | exact (no h).elim | cases h); exact st_dict H' I
    | sub e i p => exact st_sub hs H' S I h
    | slc e lo hi st sp p => exact st_slc hs H' S I h
    | attr e a p => exact st_attr hs Z.hC H' S I h
    | bin l op rr p => exact st_bin hs H' S I h
    | neg e p => exact st_neg hs H' S I h
    | not e p => (first | exact (no h).elim | cases h)
    | boo op es p => (first | exact (no h).elim | cases h)
    | cmp l op rr p =>
      obtain ⟨x, e1, h⟩ := bind_some h
      (first | exact (no h).elim | cases h)
      exact st_e_cmp hs H' S I e1
    | ite t b o p => exact st_ite hs H' S I h
    | call i np as p => exact st_call hs H' S I h
    | meth o a as ap p hl => exact st_meth hs Z.hC hl H' S I h
    | comp elt ct it ifs u w jn cs sc hh p => exact st_comp hs Z.hG hh H' S I h
    | lam j k p => exact st_lam Z.hT H' S I h
    | raw e => (first | exact (no h).elim | cases h)
  es H S I h := st_es hs H.down S I h
  esn h := st_esn hs h
  eo H S I h := st_eo hs H.down S I h
  t H S I h := st_t hs H.down S I h
  ts H S I h := st_ts hs H.down S I h
  tf H S I h := st_tf hs H.down S I h
  a H hL S I hu h := st_a hs Z.hC H.down hL S I hu h
  as H hL S I hu h := st_as hs H.down hL S I hu h
  s {A env h₀ L ns m N ρ s st fl sl sl' σ σ'} H hL S I h := by
    have H' := H.down
    cases st with
    | asg t e p => exact st_asg hs H' hL S I h
    | swp is tk tp es ek ep p => exact st_swp hs H' hL S I h
    | augA o a tp op e p => exact st_augA hs Z.hC H' hL S I h
    | iff t b o p => exact st_iff hs H' hL S I h
    | whl t b p => exact st_whl hs H' hL S I h
    | fr t it b p => exact st_for hs H' hL S I h
    | ret e p => exact st_ret hs H' S I h
    | brk p =>
      (first | exact (no h).elim | cases h)
      show WpS G A h₀ L env ns m (exec (.Break p) env) _ _ _ _ _ _
      rw [arm_exec_Break]
      exact WpS.stand (WpS.pure I S rfl)
    | ex e p => exact st_ex hs H' S I h
    | raw st => (first | exact (no h).elim | cases h)
  ss H hL S I h := st_ss hs H.down hL S I h
  wh H hL S I h := st_wh hs H.down hL S I h
  fr H hL S I O h := st_fr hs H.down hL S I O h
  co H hC hCL haC hk S I O hmC hnC hoC hD h := st_co hs H.down hC hCL haC hk S I O hmC hnC hoC hD h
  keep H I hf h := st_keep Z hM H.down I hf h
  call H I hf hvs h := st_call1 Z hM hs H I hf hvs h
  callF H I hvs h := st_callF Z hM hs H I hvs h
theorem sound_run (Z : Static G FT CT GV) (hM : MemoOk G mm) : ∀ n, Sound G (run FT CT GV mm n) n
  | 0 => sound_nil G
  | n + 1 => sound_step Z hM (sound_run Z hM n)
end
end Mine

open PySem PySem.W PyProof.Rows PySem.Calls
namespace Mine
set_option autoImplicit false
set_option backward.match.sparseCases false
set_option linter.unusedVariables false
set_option maxRecDepth 20000

/-! ## static facts by evaluation -/
noncomputable def strIs (l : List Nat) : Value → Bool
  | .str s _ => s == ⟨l.toArray⟩
  | _ => false
noncomputable def strsAre : List MV → List Value → Bool
  | [], [] => true
  | .str l :: ms, v :: vs => strIs l v && strsAre ms vs
  | _, _ => false
noncomputable def tupIs (K : Frag) (ms : List MV) : Value → Bool
  | .ref a => (match K.lookup a with
    | some ⟨.type "tuple", none, .seq vs _, sl⟩ => sl.isEmpty && strsAre ms vs.toList
    | _ => false)
  | _ => false
noncomputable def gValB (K : Frag) (FA CA : Nat → Addr) (v : Value) : MV → Bool
  | .fn k => v == .ref (FA k)
  | .cls k => v == .ref (CA k)
  | .str l => strIs l v
  | .tup ms => tupIs K ms v
  | _ => false
noncomputable def gB (K : Frag) (FA CA : Nat → Addr) (x : Str) (mv : MV) : Bool := match mv with
  | .bi b => nsIn K mainGlobals x == some none && !(x == ("__name__" : Str)) && bootBuiltins x == some (biV b)
  | mv => (match nsIn K mainGlobals x with
    | some (some v) => gValB K FA CA v mv
    | _ => false)
theorem strIs_ok {l : List Nat} {v : Value} (h : strIs l v = true) : ∃ t, v = .str ⟨l.toArray⟩ t := by
  unfold strIs at h
  split at h
  · exact ⟨_, by rw [beq_iff_eq.mp h]⟩
  · (first | exact (no h).elim | cases h)
theorem strsAre_ok {G : St} {N : Led} {ρ : Rho} : ∀ {ms : List MV} {vs : List Value}, strsAre ms vs = true → RVs G N ρ vs ms
  | [], [], _ => .nil
  | [], _ :: _, h => by (first | exact (no h).elim | cases h)
  | m :: ms, [], h => by cases m <;> (first | exact (no h).elim | cases h)
  | m :: ms, v :: vs, h => by
    cases m <;> try ((first | exact (no h).elim | cases h); done)
    simp only [strsAre, Bool.and_eq_true] at h
    obtain ⟨t, rfl⟩ := strIs_ok h.1
    exact .cons (.str _ _) (strsAre_ok h.2)
theorem gValB_ok {G : St} {v : Value} {mv : MV} (h : gValB G.K G.FA G.CA v mv = true) (N : Led) (ρ : Rho) : RV G N ρ v mv := by
  cases mv <;> try ((first | exact (no h).elim | cases h); done)
  · obtain ⟨t, rfl⟩ := strIs_ok h
    exact .str _ _
  · rename_i ms
    replace h : tupIs G.K ms v = true := h
    unfold tupIs at h
    split at h
    · split at h
      · rename_i vs n sl hl
        simp only [Bool.and_eq_true, Array.isEmpty_iff] at h
        obtain ⟨rfl, h2⟩ := h
        exact .ktup (n := n) (ws := vs.toList) hl (strsAre_ok h2)
      · (first | exact (no h).elim | cases h)
    · (first | exact (no h).elim | cases h)
  · have h' := beq_iff_eq.mp (show (v == .ref (G.FA _)) = true from h); subst h'; exact .fn _
  · have h' := beq_iff_eq.mp (show (v == .ref (G.CA _)) = true from h); subst h'; exact .cls _
theorem gB_ok {G : St} {x : Str} {mv : MV} (h : gB G.K G.FA G.CA x mv = true) : GlbOk G x mv := by
  by_cases hb : ∃ b, mv = .bi b
  · obtain ⟨b, rfl⟩ := hb
    simp only [gB, Bool.and_eq_true, beq_iff_eq, Bool.not_eq_true'] at h
    exact .inr ⟨h.1.1, by simpa using h.1.2, _, h.2, fun N ρ => .bi _⟩
  · have h' : (match nsIn G.K mainGlobals x with
      | some (some v) => gValB G.K G.FA G.CA v mv
      | _ => false) = true := by
      cases mv <;> first | exact absurd ⟨_, rfl⟩ hb | exact h
    cases hv : nsIn G.K mainGlobals x with
    | none => rw [hv] at h'; cases h'
    | some o =>
      cases o with
      | none => rw [hv] at h'; cases h'
      | some v => rw [hv] at h'; exact .inl ⟨v, hv, gValB_ok h'⟩
/-- the function object at an address -/
noncomputable def objAt (K : Frag) (a : Addr) : Obj := (K.lookup a).getD { cls := .none, data := .plain }
noncomputable def fdOf (o : Obj) : FuncData := match o.data with
  | .func fd => fd
  | _ => fnX "" "" { posonlyargs := [], args := [], vararg := none, kwonlyargs := [], kw_defaults := [], kwarg := none, defaults := [] } [] { kind := .function, names := [], isGenerator := false, isCoroutine := false } [] .none .none .none .none none .none .none
noncomputable def stmtsOf : FuncBody → List Stmt
  | .stmts b => b
  | .expr _ => []
noncomputable def cdOf (fd : FuncData) : Cd := ⟨fd.name, fd.qualname, fd.params, stmtsOf fd.body, fd.scope, ⟨0, 0, 0, 0⟩⟩
noncomputable def nsEq : Names → Names → Bool
  | [], [] => true
  | p :: a, q :: b => p.1 == q.1 && p.2 == q.2 && nsEq a b
  | _, _ => false
theorem nsEq_ok : ∀ {a b : Names}, nsEq a b = true → a = b
  | [], [], _ => rfl
  | [], _ :: _, h => nomatch h
  | _ :: _, [], h => nomatch h
  | p :: a, q :: b, h => by
    simp only [nsEq, Bool.and_eq_true, beq_iff_eq] at h
    rw [Prod.ext h.1.1 h.1.2, nsEq_ok h.2]
noncomputable def fsB (K : Frag) (FA CA : Nat → Addr) (names ns : Names) (i : Nat) : FS → Bool
  | .loc => names.lookup (ns.at i) == some .local
  | .glb v => names.lookup (ns.at i) == some .globalImplicit && gB K FA CA (ns.at i) v
  | .nst _ _ _ => true
  | .nid w => nsEq ns (nsAt w)
  | .unk => true
noncomputable def fsAll (K : Frag) (FA CA : Nat → Addr) (names ns : Names) : Nat → List FS → Bool
  | _, [] => true
  | i, f :: fs => fsB K FA CA names ns i f && fsAll K FA CA names ns (i + 1) fs
noncomputable def isNst : FS → Bool
  | .nst _ _ _ => true
  | _ => false
noncomputable def dbgB (ns : Names) : Bool := ns.all fun p => !(p.1 == ("__debug__" : Str))
noncomputable def fnB (K : Frag) (FA CA : Nat → Addr) (cd : Cd) (ns : Names) (fn : Fn) : Bool :=
  cd.scope.kind == .function && !cd.scope.isCoroutine && !cd.scope.isGenerator && ndB2 (ns.map (·.1)) && ndB2 (cd.scope.names.map (·.1)) && dbgB ns && fn.slots.length == ns.length &&
    fsAll K FA CA cd.scope.names ns 0 fn.slots && cd.scope.names.all (fun x => !(x.2 == .cell))
theorem fsAll_ok {K : Frag} {FA CA : Nat → Addr} {names ns : Names} : ∀ {fs : List FS} {i : Nat}, fsAll K FA CA names ns i fs = true → ∀ j f, fs[j]? = some f → fsB K FA CA names ns (i + j) f = true
  | [], _, _, j, f, e => by simp at e
  | g :: fs, i, h, j, f, e => by
    simp only [fsAll, Bool.and_eq_true] at h
    cases j with
    | zero => simp only [List.getElem?_cons_zero, Option.some.injEq] at e; subst e; exact h.1
    | succ j =>
      have := fsAll_ok h.2 j f (by simpa using e)
      rwa [show i + 1 + j = i + (j + 1) by omega] at this
theorem fnB_ok {G : St} {cd : Cd} {ns : Names} {fn : Fn} (h : fnB G.K G.FA G.CA cd ns fn = true) (hb : S.ers ns fn.body = cd.body)
    (bind : ∀ (doc pm : Value) (an : Option Addr) (cdv ct : Value) (vals : List Value), vals.length = fn.np →
      bindArgs (fnX cd.name cd.qual cd.params cd.body cd.scope [] .none .none doc pm an cdv ct) ⟨vals, []⟩ = pure (((ns.take fn.np).map (·.1)).zip vals)) : FnOk G cd ns fn := by
  unfold fnB at h
  simp only [Bool.and_eq_true, beq_iff_eq, Bool.not_eq_true'] at h
  obtain ⟨⟨⟨⟨⟨⟨⟨⟨h1, h2⟩, h3⟩, h4⟩, h5⟩, h6⟩, h7⟩, h8⟩, h9⟩ := h
  refine { body := hb, kind := h1, co := h2, gen := h3, nd := ndB2_ok h4, ndc := ndB2_ok h5, dbg := fun i hi => ?_, len := h7, slots := fun i f e => ?_, cells := ?_, bind := bind }
  · have e := List.getElem?_eq_getElem hi
    have := List.all_eq_true.mp h6 _ (List.getElem_mem hi)
    rw [at_of e]
    simpa using this
  · have := fsAll_ok h8 i f e
    rw [Nat.zero_add] at this
    cases f with
    | loc => exact beq_iff_eq.mp this
    | glb v =>
      simp only [fsB, Bool.and_eq_true, beq_iff_eq] at this
      exact ⟨this.1, gB_ok this.2⟩
    | nst _ _ _ => trivial
    | nid w => exact nsEq_ok this
    | unk => trivial
  · intro x hx hc
    have := List.all_eq_true.mp h9 x hx
    rw [hc] at this
    exact Bool.noConfusion this
noncomputable def noNst (fn : Fn) : Bool := fn.slots.all fun f => !isNst f
theorem noNst_ok {fn : Fn} (h : noNst fn = true) (i k : Nat) (js : List Nat) : FS.nst i k js ∉ fn.slots := fun hm => by
  have := List.all_eq_true.mp h _ hm; cases this
/-- a class by evaluation -/
noncomputable def allN (f : Nat → Bool) : Nat → Bool
  | 0 => true
  | n + 1 => f n && allN f n
theorem allN_ok {f : Nat → Bool} : ∀ {n : Nat}, allN f n = true → ∀ a < n, f a = true
  | 0, _, a, h => absurd h (Nat.not_lt_zero _)
  | n + 1, h, a, ha => by
    simp only [allN, Bool.and_eq_true] at h
    rcases Nat.lt_succ_iff_lt_or_eq.mp ha with h1 | rfl
    · exact allN_ok h.2 a h1
    · exact h.1
noncomputable def clsB1 (K : Frag) (FA CA : Nat → Addr) (k : Nat) (c : Cl) (a : Nat) : Bool := match lkN a c.meths with
  | none => findIn K (.ref (CA k)) (an a) == some none
  | some f => findIn K (.ref (CA k)) (an a) == some (some (.ref (FA f))) && isFn K (.ref (FA f)) && specialIn K (.ref (FA f)) "__get__" == some (some (.builtin "function.__get__")) && takesIn K (.ref (FA f)) == some false
noncomputable def clsIni (K : Frag) (FA CA : Nat → Addr) (k : Nat) (c : Cl) : Bool := match c.ini with
  | none => true
  | some f => makesIn K (CA k) && findIn K (.ref (CA k)) "__init__" == some (some (.ref (FA f))) && typeIn K (.ref (FA f)) == some (.type "function")
noncomputable def clsB (K : Frag) (FA CA : Nat → Addr) (k : Nat) (c : Cl) : Bool :=
  hasDictIn K (CA k) && plainOver K (CA k) && findIn K (.ref (CA k)) "__getattribute__" == some (some (.builtin "object.__getattribute__")) && findIn K (.ref (CA k)) "__getattr__" == some none &&
    findIn K (.ref (CA k)) "__setattr__" == some (some (.builtin "object.__setattr__")) && allN (clsB1 K FA CA k c) 20 && clsIni K FA CA k c && c.meths.all (fun p => Nat.ble p.1 19)
theorem lkN_mem {α : Type} {a : Nat} {f : α} : ∀ {l : List (Nat × α)}, lkN a l = some f → ∃ p ∈ l, p.1 = a
  | [], h => by (first | exact (no h).elim | cases h)
  | p :: l, h => by
    rw [lkN_cons] at h
    split at h
    · rename_i hb; exact ⟨p, List.mem_cons_self .., Nat.eq_of_beq_eq_true hb⟩
    · obtain ⟨q, hq, e⟩ := lkN_mem h; exact ⟨q, List.mem_cons_of_mem _ hq, e⟩
theorem clsB_ok {G : St} {k : Nat} {c : Cl} (h : clsB G.K G.FA G.CA k c = true) : ClsOk G k c ∧ ∀ a f, lkN a c.meths = some f → specialIn G.K (.ref (G.FA f)) "__get__" = some (some (.builtin "function.__get__")) ∧ takesIn G.K (.ref (G.FA f)) = some false := by
  unfold clsB at h
  simp only [Bool.and_eq_true, beq_iff_eq] at h
  obtain ⟨⟨⟨⟨⟨⟨⟨h1, h2⟩, h3⟩, h4⟩, h5⟩, h6⟩, h7⟩, h8⟩ := h
  refine ⟨{ dict := h1, plain := h2, get := ⟨h3, h4⟩, set := h5, none := fun a ha hn => ?_, meth := fun a ha f hf => ?_, make := fun f hf => ?_ }, fun a f hf => ?_⟩
  · have := allN_ok h6 a ha
    unfold clsB1 at this
    rw [hn] at this
    exact beq_iff_eq.mp this
  · have := allN_ok h6 a ha
    unfold clsB1 at this
    rw [hf] at this
    simp only [Bool.and_eq_true, beq_iff_eq] at this
    exact ⟨this.1.1.1, this.1.1.2⟩
  · unfold clsIni at h7
    rw [hf] at h7
    simp only [Bool.and_eq_true, beq_iff_eq] at h7
    exact ⟨h7.1.1, h7.1.2, h7.2⟩
  · obtain ⟨p, hp, e⟩ := lkN_mem hf
    have ha := Nat.le_of_ble_eq_true (List.all_eq_true.mp h8 p hp)
    rw [e] at ha
    have := allN_ok h6 a (Nat.lt_succ_of_le ha)
    unfold clsB1 at this
    rw [hf] at this
    simp only [Bool.and_eq_true, beq_iff_eq] at this
    exact ⟨this.1.2, this.2⟩
end Mine

open PySem PySem.W PyProof.Rows PySem.Calls
namespace Mine
set_option autoImplicit false
set_option backward.match.sparseCases false
set_option linter.unusedVariables false
/-! ## stores with a host, its dict, its log and a pile -/
section
variable {α : Type}
theorem at?_set {v o : α} : ∀ {σ : List α} {i : Nat}, at? σ i = some o → at? (setAt v σ i) i = some v
  | [], i, h => by rw [at?_eq] at h; simp at h
  | a :: σ, 0, h => rfl
  | a :: σ, i + 1, h => at?_set (σ := σ) (i := i) h
theorem at?_ne {v : α} {σ : List α} {i j : Nat} (h : i ≠ j) : at? (setAt v σ i) j = at? σ j := by
  rw [at?_eq, at?_eq, setAt_eq, List.getElem?_set_ne h]
theorem set_set {u v : α} {σ : List α} {i : Nat} : setAt v (setAt u σ i) i = setAt v σ i := by
  rw [setAt_eq, setAt_eq, setAt_eq, List.set_set]
theorem set_comm {u v : α} {σ : List α} {i j : Nat} (h : i ≠ j) : setAt v (setAt u σ i) j = setAt u (setAt v σ j) i := by
  rw [setAt_eq, setAt_eq, setAt_eq, setAt_eq, List.set_comm _ _ h]
theorem set_length {v : α} {σ : List α} {i : Nat} : (setAt v σ i).length = σ.length := by rw [setAt_eq]; simp
theorem set_append {v : α} {σ τ : List α} {i : Nat} (h : i < σ.length) : setAt v (σ ++ τ) i = setAt v σ i ++ τ := by
  rw [setAt_eq, setAt_eq, List.set_append_left _ _ h]
theorem set_last {u v : α} {σ : List α} : setAt v (σ ++ [u]) σ.length = σ ++ [v] := by
  rw [setAt_eq, List.set_append_right _ _ (Nat.le_refl _)]; simp
theorem at?_append {σ τ : List α} {i : Nat} (h : i < σ.length) : at? (σ ++ τ) i = at? σ i := by
  rw [at?_eq, at?_eq, List.getElem?_append_left h]
theorem at?_last {σ : List α} {o : α} : at? (σ ++ [o]) σ.length = some o := by
  rw [at?_eq, List.getElem?_append_right (Nat.le_refl _)]; simp
theorem at?_lt {σ : List α} {i : Nat} {o : α} (h : at? σ i = some o) : i < σ.length := by
  rw [at?_eq] at h; exact (List.getElem?_eq_some_iff.mp h).1
end
noncomputable def hostM (d rf lg : Nat) (lim st : Int) : MO := .inst 1 [(0, .ref d), (1, .int lim), (2, .ref rf), (3, .int 64), (4, .int st), (5, .ref lg)]
/-- where the objects of a match lie: the host, its dict, its list of refused names, its log, the pile -/
structure Pl where
  h : Nat
  d : Nat
  rf : Nat
  lg : Nat
  p : Nat
/-- what of it turns -/
structure Tu where
  st : Int
  kv : List (List Nat × MV)
  lo : List MV
  pl : List MV
noncomputable def W (q : Pl) (lim : Int) (t : Tu) (σ : List MO) : List MO :=
  setAt (.list t.pl) (setAt (hostM q.d q.rf q.lg lim t.st) (setAt (.dict t.kv) (setAt (.list t.lo) σ q.lg) q.d) q.h) q.p
structure WC (q : Pl) (σ : List MO) : Prop where
  h : ∃ o, at? σ q.h = some o
  d : ∃ o, at? σ q.d = some o
  l : ∃ o, at? σ q.lg = some o
  p : ∃ o, at? σ q.p = some o
  r : at? σ q.rf = some (.list [])
  hd : q.h ≠ q.d
  hl : q.h ≠ q.lg
  hp : q.h ≠ q.p
  dl : q.d ≠ q.lg
  dp : q.d ≠ q.p
  lp : q.lg ≠ q.p
  rh : q.rf ≠ q.h
  rd : q.rf ≠ q.d
  rl : q.rf ≠ q.lg
  rp : q.rf ≠ q.p
section
variable {q : Pl} {lim : Int} {t : Tu} {σ : List MO}
theorem at?_set' {v : MO} {σ : List MO} {i : Nat} (h : ∃ o, at? σ i = some o) : at? (setAt v σ i) i = some v := let ⟨_, h⟩ := h; at?_set h
theorem W_h (c : WC q σ) : at? (W q lim t σ) q.h = some (hostM q.d q.rf q.lg lim t.st) := by
  unfold W; rw [at?_ne c.hp.symm]; exact at?_set' (by rw [at?_ne c.hd.symm, at?_ne c.hl.symm]; exact c.h)
theorem W_d (c : WC q σ) : at? (W q lim t σ) q.d = some (.dict t.kv) := by
  unfold W; rw [at?_ne c.dp.symm, at?_ne c.hd]; exact at?_set' (by rw [at?_ne c.dl.symm]; exact c.d)
theorem W_l (c : WC q σ) : at? (W q lim t σ) q.lg = some (.list t.lo) := by
  unfold W; rw [at?_ne c.lp.symm, at?_ne c.hl, at?_ne c.dl]; exact at?_set' c.l
theorem W_p (c : WC q σ) : at? (W q lim t σ) q.p = some (.list t.pl) := by
  unfold W; exact at?_set' (by rw [at?_ne c.hp, at?_ne c.dp, at?_ne c.lp]; exact c.p)
theorem W_o (c : WC q σ) {i : Nat} (h1 : i ≠ q.h) (h2 : i ≠ q.d) (h3 : i ≠ q.lg) (h4 : i ≠ q.p) : at? (W q lim t σ) i = at? σ i := by
  unfold W; rw [at?_ne h4.symm, at?_ne h1.symm, at?_ne h2.symm, at?_ne h3.symm]
theorem W_r (c : WC q σ) : at? (W q lim t σ) q.rf = some (.list []) := by rw [W_o c c.rh c.rd c.rl c.rp]; exact c.r
theorem W_seth (c : WC q σ) {st : Int} : setAt (hostM q.d q.rf q.lg lim st) (W q lim t σ) q.h = W q lim { t with st := st } σ := by
  unfold W; rw [set_comm c.hp.symm, set_set]
theorem W_setp (c : WC q σ) {pl : List MV} : setAt (.list pl) (W q lim t σ) q.p = W q lim { t with pl := pl } σ := by
  unfold W; rw [set_set]
theorem W_setd (c : WC q σ) {kv : List (List Nat × MV)} : setAt (.dict kv) (W q lim t σ) q.d = W q lim { t with kv := kv } σ := by
  unfold W; rw [set_comm c.dp.symm, set_comm c.hd, set_set]
theorem W_setl (c : WC q σ) {lo : List MV} : setAt (.list lo) (W q lim t σ) q.lg = W q lim { t with lo := lo } σ := by
  unfold W; rw [set_comm c.lp.symm, set_comm c.hl, set_comm c.dl, set_set]
theorem W_length : (W q lim t σ).length = σ.length := by unfold W; rw [set_length, set_length, set_length, set_length]
/-- as it stands at the outset -/
theorem W_self {pl : List MV} {st : Int} {kv : List (List Nat × MV)} {lo : List MV} (hh : at? σ q.h = some (hostM q.d q.rf q.lg lim st)) (hd : at? σ q.d = some (.dict kv)) (hl : at? σ q.lg = some (.list lo)) (hp : at? σ q.p = some (.list pl)) : W q lim ⟨st, kv, lo, pl⟩ σ = σ := by
  have key : ∀ {σ : List MO} {i : Nat} {o : MO}, at? σ i = some o → setAt o σ i = σ := fun {σ i o} h => by
    rw [at?_eq] at h
    rw [setAt_eq]
    obtain ⟨h1, h2⟩ := List.getElem?_eq_some_iff.mp h
    rw [← h2, List.set_getElem_self]
  unfold W
  simp only
  rw [key hl, key hd, key hh, key hp]
end
end Mine

open PySem PySem.W PyProof.Rows PySem.Calls
namespace Mine
set_option autoImplicit false
set_option backward.match.sparseCases false
set_option linter.unusedVariables false
theorem dcok0 : csOkB 0 3 (.one 1 ⟨313, 31, 313, 34⟩) [.loc, .loc, .glb 0, .glb 1] = true ∧ ({ kind := PySem.ScopeKind.function, names := [((PySem.Str.ofString ".0"), PySem.NameKind.local), ((PySem.Str.ofString "one"), PySem.NameKind.local), ((PySem.Str.ofString "abs"), PySem.NameKind.globalImplicit), ((PySem.Str.ofString "int"), PySem.NameKind.globalImplicit)], isGenerator := false, isCoroutine := false, more := [] } : Scope).names = nmAt 0 ∧ ({ kind := PySem.ScopeKind.function, names := [((PySem.Str.ofString ".0"), PySem.NameKind.local), ((PySem.Str.ofString "one"), PySem.NameKind.local), ((PySem.Str.ofString "abs"), PySem.NameKind.globalImplicit), ((PySem.Str.ofString "int"), PySem.NameKind.globalImplicit)], isGenerator := false, isCoroutine := false, more := [] } : Scope).kind = .function := ⟨by decide +kernel, rfl, rfl⟩
theorem dcok1 : csOkB 8 3 (.one 1 ⟨315, 79, 315, 81⟩) [.loc, .loc, .glb 2, .out 2, .out 3] = true ∧ ({ kind := PySem.ScopeKind.function, names := [((PySem.Str.ofString ".0"), PySem.NameKind.local), ((PySem.Str.ofString "at"), PySem.NameKind.local), ((PySem.Str.ofString "len"), PySem.NameKind.globalImplicit), ((PySem.Str.ofString "cells"), PySem.NameKind.free), ((PySem.Str.ofString "letters"), PySem.NameKind.free)], isGenerator := false, isCoroutine := false, more := [] } : Scope).names = nmAt 8 ∧ ({ kind := PySem.ScopeKind.function, names := [((PySem.Str.ofString ".0"), PySem.NameKind.local), ((PySem.Str.ofString "at"), PySem.NameKind.local), ((PySem.Str.ofString "len"), PySem.NameKind.globalImplicit), ((PySem.Str.ofString "cells"), PySem.NameKind.free), ((PySem.Str.ofString "letters"), PySem.NameKind.free)], isGenerator := false, isCoroutine := false, more := [] } : Scope).kind = .function := ⟨by decide +kernel, rfl, rfl⟩
theorem dcok2 : csOkB 9 3 (.one 1 ⟨326, 28, 326, 34⟩) [.loc, .loc, .out 5] = true ∧ ({ kind := PySem.ScopeKind.function, names := [((PySem.Str.ofString ".0"), PySem.NameKind.local), ((PySem.Str.ofString "letter"), PySem.NameKind.local), ((PySem.Str.ofString "edges"), PySem.NameKind.free)], isGenerator := false, isCoroutine := false, more := [] } : Scope).names = nmAt 9 ∧ ({ kind := PySem.ScopeKind.function, names := [((PySem.Str.ofString ".0"), PySem.NameKind.local), ((PySem.Str.ofString "letter"), PySem.NameKind.local), ((PySem.Str.ofString "edges"), PySem.NameKind.free)], isGenerator := false, isCoroutine := false, more := [] } : Scope).kind = .function := ⟨by decide +kernel, rfl, rfl⟩
noncomputable def dns_give_names : Names := [("found", .local), ("give", .local), ("ref", .local), ("text", .local)]
noncomputable def db_give_names : List S := [(.fr (.tup [(.name 2 ⟨3, 8, 3, 11⟩), (.name 3 ⟨3, 13, 3, 17⟩)] 0 ⟨3, 8, 3, 17⟩) (.sub (.name 0 ⟨3, 21, 3, 26⟩) (.cst (.int 2) 0 ⟨3, 27, 3, 28⟩) ⟨3, 21, 3, 29⟩) [(.ex (.call 1 ⟨4, 8, 4, 12⟩ [(.name 2 ⟨4, 13, 4, 16⟩), (.name 3 ⟨4, 18, 4, 22⟩)] ⟨4, 8, 4, 23⟩) ⟨4, 8, 4, 23⟩)] ⟨3, 4, 4, 23⟩)]
noncomputable def df_give_names : Fn := ⟨2, [.loc, .loc, .loc, .loc], db_give_names⟩
noncomputable def dns_three_pieces : Names := [("subject", .local), ("found", .local)]
noncomputable def db_three_pieces : List S := [(.ret (.tup [(.slc (.name 0 ⟨6, 12, 6, 19⟩) none (some (.sub (.name 1 ⟨6, 21, 6, 26⟩) (.cst (.int 0) 0 ⟨6, 27, 6, 28⟩) ⟨6, 21, 6, 29⟩)) none ⟨6, 20, 6, 29⟩ ⟨6, 12, 6, 30⟩), (.slc (.name 0 ⟨6, 32, 6, 39⟩) (some (.sub (.name 1 ⟨6, 40, 6, 45⟩) (.cst (.int 0) 0 ⟨6, 46, 6, 47⟩) ⟨6, 40, 6, 48⟩)) (some (.sub (.name 1 ⟨6, 49, 6, 54⟩) (.cst (.int 1) 0 ⟨6, 55, 6, 56⟩) ⟨6, 49, 6, 57⟩)) none ⟨6, 40, 6, 57⟩ ⟨6, 32, 6, 58⟩), (.slc (.name 0 ⟨6, 60, 6, 67⟩) (some (.sub (.name 1 ⟨6, 68, 6, 73⟩) (.cst (.int 1) 0 ⟨6, 74, 6, 75⟩) ⟨6, 68, 6, 76⟩)) none none ⟨6, 68, 6, 77⟩ ⟨6, 60, 6, 78⟩)] 0 ⟨6, 11, 6, 79⟩) ⟨6, 4, 6, 79⟩)]
noncomputable def df_three_pieces : Fn := ⟨2, [.loc, .loc], db_three_pieces⟩
noncomputable def dns_spliced : Names := [("subject", .local), ("found", .local), ("text", .local), ("ahead", .local), ("met", .local), ("behind", .local), ("three_pieces", .globalImplicit)]
noncomputable def db_spliced : List S := [(.asg (.tup [(.name 3 ⟨8, 4, 8, 9⟩), (.name 4 ⟨8, 11, 8, 14⟩), (.name 5 ⟨8, 16, 8, 22⟩)] 0 ⟨8, 4, 8, 22⟩) (.call 6 ⟨8, 25, 8, 37⟩ [(.name 0 ⟨8, 38, 8, 45⟩), (.name 1 ⟨8, 47, 8, 52⟩)] ⟨8, 25, 8, 53⟩) ⟨8, 4, 8, 53⟩), (.ret (.bin (.bin (.name 3 ⟨9, 11, 9, 16⟩) .Add (.name 2 ⟨9, 19, 9, 23⟩) ⟨9, 11, 9, 23⟩) .Add (.name 5 ⟨9, 26, 9, 32⟩) ⟨9, 11, 9, 32⟩) ⟨9, 4, 9, 32⟩)]
noncomputable def df_spliced : Fn := ⟨3, [.loc, .loc, .loc, .loc, .loc, .loc, .glb (.fn 1)], db_spliced⟩
noncomputable def dns_replace_once : Names := [("matcher", .local), ("node", .local), ("subject", .local), ("is_anchored", .local), ("host", .local), ("text_of", .local), ("found", .local), ("text", .local), ("give_names", .globalImplicit), ("spliced", .globalImplicit)]
noncomputable def db_replace_once : List S := [(.asg (.name 6 ⟨11, 4, 11, 9⟩) (.call 0 ⟨11, 12, 11, 19⟩ [(.name 1 ⟨11, 20, 11, 24⟩), (.name 2 ⟨11, 26, 11, 33⟩), (.name 3 ⟨11, 35, 11, 46⟩), (.name 4 ⟨11, 48, 11, 52⟩)] ⟨11, 12, 11, 53⟩) ⟨11, 4, 11, 53⟩), (.iff (.cmp (.name 6 ⟨12, 7, 12, 12⟩) .Is (.cst .none 0 ⟨12, 16, 12, 20⟩) ⟨12, 7, 12, 20⟩) [(.ret (.cst .none 0 ⟨13, 15, 13, 19⟩) ⟨13, 8, 13, 19⟩)] [] ⟨12, 4, 13, 19⟩), (.ex (.call 8 ⟨14, 4, 14, 14⟩ [(.name 6 ⟨14, 15, 14, 20⟩), (.attr (.name 4 ⟨14, 22, 14, 26⟩) 18 ⟨14, 22, 14, 33⟩)] ⟨14, 4, 14, 34⟩) ⟨14, 4, 14, 34⟩), (.asg (.name 7 ⟨15, 4, 15, 8⟩) (.call 5 ⟨15, 11, 15, 18⟩ [(.name 4 ⟨15, 19, 15, 23⟩)] ⟨15, 11, 15, 24⟩) ⟨15, 4, 15, 24⟩), (.ret (.ite (.cmp (.name 7 ⟨16, 19, 16, 23⟩) .Is (.cst .none 0 ⟨16, 27, 16, 31⟩) ⟨16, 19, 16, 31⟩) (.cst .none 0 ⟨16, 11, 16, 15⟩) (.call 9 ⟨16, 37, 16, 44⟩ [(.name 2 ⟨16, 45, 16, 52⟩), (.name 6 ⟨16, 54, 16, 59⟩), (.name 7 ⟨16, 61, 16, 65⟩)] ⟨16, 37, 16, 66⟩) ⟨16, 11, 16, 66⟩) ⟨16, 4, 16, 66⟩)]
noncomputable def df_replace_once : Fn := ⟨6, [.loc, .loc, .loc, .loc, .loc, .loc, .loc, .loc, .glb (.fn 0), .glb (.fn 2)], db_replace_once⟩
noncomputable def dns_NameRef___init : Names := [("self", .local), ("kind", .local), ("owner", .local), ("key", .local)]
noncomputable def db_NameRef___init : List S := [(.asg (.attr (.name 0 ⟨37, 8, 37, 12⟩) 6 ⟨37, 8, 37, 17⟩) (.name 1 ⟨37, 20, 37, 24⟩) ⟨37, 8, 37, 24⟩), (.asg (.attr (.name 0 ⟨38, 8, 38, 12⟩) 7 ⟨38, 8, 38, 18⟩) (.name 2 ⟨38, 21, 38, 26⟩) ⟨38, 8, 38, 26⟩), (.asg (.attr (.name 0 ⟨39, 8, 39, 12⟩) 8 ⟨39, 8, 39, 16⟩) (.name 3 ⟨39, 19, 39, 22⟩) ⟨39, 8, 39, 22⟩)]
noncomputable def df_NameRef___init : Fn := ⟨4, [.loc, .loc, .loc, .loc], db_NameRef___init⟩
noncomputable def dns_PlainHost___init : Names := [("self", .local), ("values", .local), ("limit", .local), ("refused", .local)]
noncomputable def db_PlainHost___init : List S := [(.asg (.attr (.name 0 ⟨80, 8, 80, 12⟩) 0 ⟨80, 8, 80, 19⟩) (.name 1 ⟨80, 22, 80, 28⟩) ⟨80, 8, 80, 28⟩), (.asg (.attr (.name 0 ⟨81, 8, 81, 12⟩) 1 ⟨81, 8, 81, 18⟩) (.name 2 ⟨81, 21, 81, 26⟩) ⟨81, 8, 81, 26⟩), (.asg (.attr (.name 0 ⟨82, 8, 82, 12⟩) 2 ⟨82, 8, 82, 20⟩) (.name 3 ⟨82, 23, 82, 30⟩) ⟨82, 8, 82, 30⟩), (.asg (.attr (.name 0 ⟨83, 8, 83, 12⟩) 3 ⟨83, 8, 83, 18⟩) (.cst (.int 64) 0 ⟨83, 21, 83, 23⟩) ⟨83, 8, 83, 23⟩), (.asg (.attr (.name 0 ⟨84, 8, 84, 12⟩) 4 ⟨84, 8, 84, 18⟩) (.cst (.int 0) 0 ⟨84, 21, 84, 22⟩) ⟨84, 8, 84, 22⟩), (.asg (.attr (.name 0 ⟨85, 8, 85, 12⟩) 5 ⟨85, 8, 85, 16⟩) (.list [] ⟨85, 19, 85, 21⟩) ⟨85, 8, 85, 21⟩)]
noncomputable def df_PlainHost___init : Fn := ⟨4, [.loc, .loc, .loc, .loc], db_PlainHost___init⟩
noncomputable def dns_PlainHost_assign : Names := [("self", .local), ("ref", .local), ("value", .local)]
noncomputable def db_PlainHost_assign : List S := [(.iff (.cmp (.attr (.name 1 ⟨93, 11, 93, 14⟩) 8 ⟨93, 11, 93, 18⟩) .In (.attr (.name 0 ⟨93, 22, 93, 26⟩) 2 ⟨93, 22, 93, 34⟩) ⟨93, 11, 93, 34⟩) [(.ret (.cst (.bool false) 0 ⟨94, 19, 94, 24⟩) ⟨94, 12, 94, 24⟩)] [] ⟨93, 8, 94, 24⟩), (.asg (.sub (.attr (.name 0 ⟨95, 8, 95, 12⟩) 0 ⟨95, 8, 95, 19⟩) (.attr (.name 1 ⟨95, 20, 95, 23⟩) 8 ⟨95, 20, 95, 27⟩) ⟨95, 8, 95, 28⟩) (.name 2 ⟨95, 31, 95, 36⟩) ⟨95, 8, 95, 36⟩), (.ex (.meth (.attr (.name 0 ⟨96, 8, 96, 12⟩) 5 ⟨96, 8, 96, 16⟩) 10 [(.tup [(.attr (.name 1 ⟨96, 25, 96, 28⟩) 8 ⟨96, 25, 96, 32⟩), (.name 2 ⟨96, 34, 96, 39⟩)] 0 ⟨96, 24, 96, 40⟩)] ⟨96, 8, 96, 23⟩ ⟨96, 8, 96, 41⟩ rfl) ⟨96, 8, 96, 41⟩), (.ret (.cst (.bool true) 0 ⟨97, 15, 97, 19⟩) ⟨97, 8, 97, 19⟩)]
noncomputable def df_PlainHost_assign : Fn := ⟨3, [.loc, .loc, .loc], db_PlainHost_assign⟩
noncomputable def dns_PlainHost_step : Names := [("self", .local), ("SnobolError", .globalImplicit)]
noncomputable def db_PlainHost_step : List S := [(.augA (.name 0 ⟨100, 8, 100, 12⟩) 4 ⟨100, 8, 100, 18⟩ .Add (.cst (.int 1) 0 ⟨100, 22, 100, 23⟩) ⟨100, 8, 100, 23⟩), (.iff (.cmp (.attr (.name 0 ⟨101, 11, 101, 15⟩) 4 ⟨101, 11, 101, 21⟩) .Gt (.attr (.name 0 ⟨101, 24, 101, 28⟩) 1 ⟨101, 24, 101, 34⟩) ⟨101, 11, 101, 34⟩) [(.raw (PySem.Stmt.Raise (exc := (some (PySem.Expr.Call (func := (PySem.Expr.Name "SnobolError" ⟨102, 18, 102, 29⟩)) (args := [(PySem.Expr.Constant (PySem.Const.int 22) 0 ⟨102, 30, 102, 32⟩), (PySem.Expr.Constant (PySem.Const.str "steps") 0 ⟨102, 34, 102, 41⟩)]) (keywords := []) (pos := ⟨102, 18, 102, 42⟩)))) (cause := none) (pos := ⟨102, 12, 102, 42⟩)))] [] ⟨101, 8, 102, 42⟩)]
noncomputable def df_PlainHost_step : Fn := ⟨1, [.loc, .unk], db_PlainHost_step⟩
noncomputable def dns_is_delayed : Names := [("told", .local), ("isinstance", .globalImplicit), ("tuple", .globalImplicit)]
noncomputable def db_is_delayed : List S := [(.ret (.call 1 ⟨129, 11, 129, 21⟩ [(.name 0 ⟨129, 22, 129, 26⟩), (.name 2 ⟨129, 28, 129, 33⟩)] ⟨129, 11, 129, 34⟩) ⟨129, 4, 129, 34⟩)]
noncomputable def df_is_delayed : Fn := ⟨1, [.loc, .glb (.bi .isinstance), .glb (.bi .tuple)], db_is_delayed⟩
noncomputable def dns_settled : Names := [("node", .local), ("host", .local), ("value", .local), ("COUNTED", .globalImplicit), ("SIGNED", .globalImplicit), ("is_delayed", .globalImplicit), ("is_fail", .globalImplicit), ("plain_count", .globalImplicit), ("plain_signs", .globalImplicit)]
noncomputable def db_settled : List S := [(.iff (.boo .Or [(.boo .And [(.cmp (.sub (.name 0 ⟨131, 7, 131, 11⟩) (.cst (.int 0) 0 ⟨131, 12, 131, 13⟩) ⟨131, 7, 131, 14⟩) .NotIn (.name 3 ⟨131, 22, 131, 29⟩) ⟨131, 7, 131, 29⟩), (.cmp (.sub (.name 0 ⟨131, 34, 131, 38⟩) (.cst (.int 0) 0 ⟨131, 39, 131, 40⟩) ⟨131, 34, 131, 41⟩) .NotIn (.name 4 ⟨131, 49, 131, 55⟩) ⟨131, 34, 131, 55⟩)] ⟨131, 7, 131, 55⟩), (.not (.call 5 ⟨131, 63, 131, 73⟩ [(.sub (.name 0 ⟨131, 74, 131, 78⟩) (.cst (.int 1) 0 ⟨131, 79, 131, 80⟩) ⟨131, 74, 131, 81⟩)] ⟨131, 63, 131, 82⟩) ⟨131, 59, 131, 82⟩)] ⟨131, 7, 131, 82⟩) [(.ret (.name 0 ⟨132, 15, 132, 19⟩) ⟨132, 8, 132, 19⟩)] [] ⟨131, 4, 132, 19⟩), (.asg (.name 2 ⟨133, 4, 133, 9⟩) (.meth (.name 1 ⟨133, 12, 133, 16⟩) 19 [(.sub (.sub (.name 0 ⟨133, 26, 133, 30⟩) (.cst (.int 1) 0 ⟨133, 31, 133, 32⟩) ⟨133, 26, 133, 33⟩) (.cst (.int 1) 0 ⟨133, 34, 133, 35⟩) ⟨133, 26, 133, 36⟩)] ⟨133, 12, 133, 25⟩ ⟨133, 12, 133, 37⟩ rfl) ⟨133, 4, 133, 37⟩), (.iff (.call 6 ⟨134, 7, 134, 14⟩ [(.name 2 ⟨134, 15, 134, 20⟩)] ⟨134, 7, 134, 21⟩) [(.ret (.cst .none 0 ⟨135, 15, 135, 19⟩) ⟨135, 8, 135, 19⟩)] [] ⟨134, 4, 135, 19⟩), (.iff (.cmp (.sub (.name 0 ⟨136, 7, 136, 11⟩) (.cst (.int 0) 0 ⟨136, 12, 136, 13⟩) ⟨136, 7, 136, 14⟩) .In (.name 3 ⟨136, 18, 136, 25⟩) ⟨136, 7, 136, 25⟩) [(.ret (.tup [(.sub (.name 0 ⟨137, 16, 137, 20⟩) (.cst (.int 0) 0 ⟨137, 21, 137, 22⟩) ⟨137, 16, 137, 23⟩), (.call 7 ⟨137, 25, 137, 36⟩ [(.name 2 ⟨137, 37, 137, 42⟩), (.sub (.name 0 ⟨137, 44, 137, 48⟩) (.cst (.int 0) 0 ⟨137, 49, 137, 50⟩) ⟨137, 44, 137, 51⟩), (.attr (.name 1 ⟨137, 53, 137, 57⟩) 3 ⟨137, 53, 137, 63⟩)] ⟨137, 25, 137, 64⟩)] 0 ⟨137, 15, 137, 65⟩) ⟨137, 8, 137, 65⟩)] [] ⟨136, 4, 137, 65⟩), (.ret (.tup [(.sub (.name 0 ⟨138, 12, 138, 16⟩) (.cst (.int 0) 0 ⟨138, 17, 138, 18⟩) ⟨138, 12, 138, 19⟩), (.call 8 ⟨138, 21, 138, 32⟩ [(.name 2 ⟨138, 33, 138, 38⟩), (.sub (.name 0 ⟨138, 40, 138, 44⟩) (.cst (.int 0) 0 ⟨138, 45, 138, 46⟩) ⟨138, 40, 138, 47⟩)] ⟨138, 21, 138, 48⟩)] 0 ⟨138, 11, 138, 49⟩) ⟨138, 4, 138, 49⟩)]
noncomputable def df_settled : Fn := ⟨2, [.loc, .loc, .loc, .glb (.tup [.str [108, 101, 110], .str [112, 111, 115], .str [114, 112, 111, 115], .str [116, 97, 98], .str [114, 116, 97, 98]]), .glb (.tup [.str [97, 110, 121], .str [110, 111, 116, 97, 110, 121], .str [115, 112, 97, 110], .str [98, 114, 101, 97, 107]]), .glb (.fn 8), .unk, .unk, .unk], db_settled⟩
noncomputable def dns_chars_end : Names := [("subject", .local), ("at", .local), ("text", .local), ("end", .local), ("len", .globalImplicit)]
noncomputable def db_chars_end : List S := [(.asg (.name 3 ⟨143, 4, 143, 7⟩) (.bin (.name 1 ⟨143, 10, 143, 12⟩) .Add (.call 4 ⟨143, 15, 143, 18⟩ [(.name 2 ⟨143, 19, 143, 23⟩)] ⟨143, 15, 143, 24⟩) ⟨143, 10, 143, 24⟩) ⟨143, 4, 143, 24⟩), (.ret (.ite (.cmp (.slc (.name 0 ⟨144, 18, 144, 25⟩) (some (.name 1 ⟨144, 26, 144, 28⟩)) (some (.name 3 ⟨144, 29, 144, 32⟩)) none ⟨144, 26, 144, 32⟩ ⟨144, 18, 144, 33⟩) .Eq (.name 2 ⟨144, 37, 144, 41⟩) ⟨144, 18, 144, 41⟩) (.name 3 ⟨144, 11, 144, 14⟩) (.cst .none 0 ⟨144, 47, 144, 51⟩) ⟨144, 11, 144, 51⟩) ⟨144, 4, 144, 51⟩)]
noncomputable def df_chars_end : Fn := ⟨3, [.loc, .loc, .loc, .loc, .glb (.bi .len)], db_chars_end⟩
noncomputable def dns_notany_at : Names := [("subject", .local), ("at", .local), ("signs", .local), ("len", .globalImplicit)]
noncomputable def db_notany_at : List S := [(.ret (.ite (.boo .And [(.cmp (.name 1 ⟨161, 21, 161, 23⟩) .Lt (.call 3 ⟨161, 26, 161, 29⟩ [(.name 0 ⟨161, 30, 161, 37⟩)] ⟨161, 26, 161, 38⟩) ⟨161, 21, 161, 38⟩), (.cmp (.sub (.name 0 ⟨161, 43, 161, 50⟩) (.name 1 ⟨161, 51, 161, 53⟩) ⟨161, 43, 161, 54⟩) .NotIn (.name 2 ⟨161, 62, 161, 67⟩) ⟨161, 43, 161, 67⟩)] ⟨161, 21, 161, 67⟩) (.bin (.name 1 ⟨161, 11, 161, 13⟩) .Add (.cst (.int 1) 0 ⟨161, 16, 161, 17⟩) ⟨161, 11, 161, 17⟩) (.cst .none 0 ⟨161, 73, 161, 77⟩) ⟨161, 11, 161, 77⟩) ⟨161, 4, 161, 77⟩)]
noncomputable def df_notany_at : Fn := ⟨3, [.loc, .loc, .loc, .glb (.bi .len)], db_notany_at⟩
noncomputable def dns_one_end : Names := [("kind", .local), ("subject", .local), ("at", .local), ("told", .local), ("chars_end", .globalImplicit), ("len_end", .globalImplicit), ("pos_end", .globalImplicit), ("rpos_end", .globalImplicit), ("tab_end", .globalImplicit), ("rtab_end", .globalImplicit), ("any_at", .globalImplicit), ("notany_at", .globalImplicit), ("span_end", .globalImplicit), ("break_end", .globalImplicit)]
noncomputable def db_one_end : List S := [(.iff (.cmp (.name 0 ⟨192, 7, 192, 11⟩) .Eq (.cst (.str [99, 104, 97, 114, 115]) 0 ⟨192, 15, 192, 22⟩) ⟨192, 7, 192, 22⟩) [(.ret (.call 4 ⟨193, 15, 193, 24⟩ [(.name 1 ⟨193, 25, 193, 32⟩), (.name 2 ⟨193, 34, 193, 36⟩), (.name 3 ⟨193, 38, 193, 42⟩)] ⟨193, 15, 193, 43⟩) ⟨193, 8, 193, 43⟩)] [] ⟨192, 4, 193, 43⟩), (.iff (.cmp (.name 0 ⟨194, 7, 194, 11⟩) .Eq (.cst (.str [108, 101, 110]) 0 ⟨194, 15, 194, 20⟩) ⟨194, 7, 194, 20⟩) [(.ret (.call 5 ⟨195, 15, 195, 22⟩ [(.name 1 ⟨195, 23, 195, 30⟩), (.name 2 ⟨195, 32, 195, 34⟩), (.name 3 ⟨195, 36, 195, 40⟩)] ⟨195, 15, 195, 41⟩) ⟨195, 8, 195, 41⟩)] [] ⟨194, 4, 195, 41⟩), (.iff (.cmp (.name 0 ⟨196, 7, 196, 11⟩) .Eq (.cst (.str [112, 111, 115]) 0 ⟨196, 15, 196, 20⟩) ⟨196, 7, 196, 20⟩) [(.ret (.call 6 ⟨197, 15, 197, 22⟩ [(.name 2 ⟨197, 23, 197, 25⟩), (.name 3 ⟨197, 27, 197, 31⟩)] ⟨197, 15, 197, 32⟩) ⟨197, 8, 197, 32⟩)] [] ⟨196, 4, 197, 32⟩), (.iff (.cmp (.name 0 ⟨198, 7, 198, 11⟩) .Eq (.cst (.str [114, 112, 111, 115]) 0 ⟨198, 15, 198, 21⟩) ⟨198, 7, 198, 21⟩) [(.ret (.call 7 ⟨199, 15, 199, 23⟩ [(.name 1 ⟨199, 24, 199, 31⟩), (.name 2 ⟨199, 33, 199, 35⟩), (.name 3 ⟨199, 37, 199, 41⟩)] ⟨199, 15, 199, 42⟩) ⟨199, 8, 199, 42⟩)] [] ⟨198, 4, 199, 42⟩), (.iff (.cmp (.name 0 ⟨200, 7, 200, 11⟩) .Eq (.cst (.str [116, 97, 98]) 0 ⟨200, 15, 200, 20⟩) ⟨200, 7, 200, 20⟩) [(.ret (.call 8 ⟨201, 15, 201, 22⟩ [(.name 1 ⟨201, 23, 201, 30⟩), (.name 2 ⟨201, 32, 201, 34⟩), (.name 3 ⟨201, 36, 201, 40⟩)] ⟨201, 15, 201, 41⟩) ⟨201, 8, 201, 41⟩)] [] ⟨200, 4, 201, 41⟩), (.iff (.cmp (.name 0 ⟨202, 7, 202, 11⟩) .Eq (.cst (.str [114, 116, 97, 98]) 0 ⟨202, 15, 202, 21⟩) ⟨202, 7, 202, 21⟩) [(.ret (.call 9 ⟨203, 15, 203, 23⟩ [(.name 1 ⟨203, 24, 203, 31⟩), (.name 2 ⟨203, 33, 203, 35⟩), (.name 3 ⟨203, 37, 203, 41⟩)] ⟨203, 15, 203, 42⟩) ⟨203, 8, 203, 42⟩)] [] ⟨202, 4, 203, 42⟩), (.iff (.cmp (.name 0 ⟨204, 7, 204, 11⟩) .Eq (.cst (.str [97, 110, 121]) 0 ⟨204, 15, 204, 20⟩) ⟨204, 7, 204, 20⟩) [(.ret (.call 10 ⟨205, 15, 205, 21⟩ [(.name 1 ⟨205, 22, 205, 29⟩), (.name 2 ⟨205, 31, 205, 33⟩), (.name 3 ⟨205, 35, 205, 39⟩)] ⟨205, 15, 205, 40⟩) ⟨205, 8, 205, 40⟩)] [] ⟨204, 4, 205, 40⟩), (.iff (.cmp (.name 0 ⟨206, 7, 206, 11⟩) .Eq (.cst (.str [110, 111, 116, 97, 110, 121]) 0 ⟨206, 15, 206, 23⟩) ⟨206, 7, 206, 23⟩) [(.ret (.call 11 ⟨207, 15, 207, 24⟩ [(.name 1 ⟨207, 25, 207, 32⟩), (.name 2 ⟨207, 34, 207, 36⟩), (.name 3 ⟨207, 38, 207, 42⟩)] ⟨207, 15, 207, 43⟩) ⟨207, 8, 207, 43⟩)] [] ⟨206, 4, 207, 43⟩), (.iff (.cmp (.name 0 ⟨208, 7, 208, 11⟩) .Eq (.cst (.str [115, 112, 97, 110]) 0 ⟨208, 15, 208, 21⟩) ⟨208, 7, 208, 21⟩) [(.ret (.call 12 ⟨209, 15, 209, 23⟩ [(.name 1 ⟨209, 24, 209, 31⟩), (.name 2 ⟨209, 33, 209, 35⟩), (.name 3 ⟨209, 37, 209, 41⟩)] ⟨209, 15, 209, 42⟩) ⟨209, 8, 209, 42⟩)] [] ⟨208, 4, 209, 42⟩), (.ret (.call 13 ⟨210, 11, 210, 20⟩ [(.name 1 ⟨210, 21, 210, 28⟩), (.name 2 ⟨210, 30, 210, 32⟩), (.name 3 ⟨210, 34, 210, 38⟩)] ⟨210, 11, 210, 39⟩) ⟨210, 4, 210, 39⟩)]
noncomputable def df_one_end : Fn := ⟨4, [.loc, .loc, .loc, .loc, .glb (.fn 10), .unk, .unk, .unk, .unk, .unk, .unk, .glb (.fn 11), .unk, .unk], db_one_end⟩
noncomputable def dns_plain_end : Names := [("node", .local), ("subject", .local), ("at", .local), ("rem_end", .globalImplicit), ("one_end", .globalImplicit)]
noncomputable def db_plain_end : List S := [(.ret (.ite (.cmp (.sub (.name 0 ⟨212, 31, 212, 35⟩) (.cst (.int 0) 0 ⟨212, 36, 212, 37⟩) ⟨212, 31, 212, 38⟩) .Eq (.cst (.str [114, 101, 109]) 0 ⟨212, 42, 212, 47⟩) ⟨212, 31, 212, 47⟩) (.call 3 ⟨212, 11, 212, 18⟩ [(.name 1 ⟨212, 19, 212, 26⟩)] ⟨212, 11, 212, 27⟩) (.call 4 ⟨212, 53, 212, 60⟩ [(.sub (.name 0 ⟨212, 61, 212, 65⟩) (.cst (.int 0) 0 ⟨212, 66, 212, 67⟩) ⟨212, 61, 212, 68⟩), (.name 1 ⟨212, 70, 212, 77⟩), (.name 2 ⟨212, 79, 212, 81⟩), (.sub (.name 0 ⟨212, 83, 212, 87⟩) (.cst (.int 1) 0 ⟨212, 88, 212, 89⟩) ⟨212, 83, 212, 90⟩)] ⟨212, 53, 212, 91⟩) ⟨212, 11, 212, 91⟩) ⟨212, 4, 212, 91⟩)]
noncomputable def df_plain_end : Fn := ⟨3, [.loc, .loc, .loc, .unk, .glb (.fn 12)], db_plain_end⟩
noncomputable def dns_match_plain : Names := [("node", .local), ("subject", .local), ("is_anchored", .local), ("host", .local), ("begin", .local), ("found", .local), ("range", .globalImplicit), ("len", .globalImplicit), ("match_at", .globalImplicit), ("LOST", .globalImplicit)]
noncomputable def db_match_plain : List S := [(.fr (.name 4 ⟨216, 8, 216, 13⟩) (.call 6 ⟨216, 17, 216, 22⟩ [(.ite (.name 2 ⟨216, 28, 216, 39⟩) (.cst (.int 1) 0 ⟨216, 23, 216, 24⟩) (.bin (.call 7 ⟨216, 45, 216, 48⟩ [(.name 1 ⟨216, 49, 216, 56⟩)] ⟨216, 45, 216, 57⟩) .Add (.cst (.int 1) 0 ⟨216, 60, 216, 61⟩) ⟨216, 45, 216, 61⟩) ⟨216, 23, 216, 61⟩)] ⟨216, 17, 216, 62⟩) [(.asg (.name 5 ⟨217, 8, 217, 13⟩) (.call 8 ⟨217, 16, 217, 24⟩ [(.name 0 ⟨217, 25, 217, 29⟩), (.name 1 ⟨217, 31, 217, 38⟩), (.name 4 ⟨217, 40, 217, 45⟩), (.name 3 ⟨217, 47, 217, 51⟩)] ⟨217, 16, 217, 52⟩) ⟨217, 8, 217, 52⟩), (.iff (.cmp (.name 5 ⟨218, 11, 218, 16⟩) .IsNot (.cst .none 0 ⟨218, 24, 218, 28⟩) ⟨218, 11, 218, 28⟩) [(.ret (.ite (.cmp (.name 5 ⟨219, 27, 219, 32⟩) .Eq (.name 9 ⟨219, 36, 219, 40⟩) ⟨219, 27, 219, 40⟩) (.cst .none 0 ⟨219, 19, 219, 23⟩) (.name 5 ⟨219, 46, 219, 51⟩) ⟨219, 19, 219, 51⟩) ⟨219, 12, 219, 51⟩)] [] ⟨218, 8, 219, 51⟩)] ⟨216, 4, 219, 51⟩), (.ret (.cst .none 0 ⟨220, 11, 220, 15⟩) ⟨220, 4, 220, 15⟩)]
noncomputable def df_match_plain : Fn := ⟨4, [.loc, .loc, .loc, .loc, .loc, .loc, .glb (.bi .range), .glb (.bi .len), .glb (.fn 15), .glb (.str [108, 111, 115, 116])], db_match_plain⟩
noncomputable def dns_match_at : Names := [("node", .local), ("subject", .local), ("begin", .local), ("host", .local), ("found", .local), ("tried", .globalImplicit), ("LOST", .globalImplicit)]
noncomputable def db_match_at : List S := [(.asg (.name 4 ⟨222, 4, 222, 9⟩) (.call 5 ⟨222, 12, 222, 17⟩ [(.name 0 ⟨222, 18, 222, 22⟩), (.name 1 ⟨222, 24, 222, 31⟩), (.name 2 ⟨222, 33, 222, 38⟩), (.name 3 ⟨222, 40, 222, 44⟩)] ⟨222, 12, 222, 45⟩) ⟨222, 4, 222, 45⟩), (.ret (.ite (.boo .Or [(.cmp (.name 4 ⟨223, 20, 223, 25⟩) .Is (.cst .none 0 ⟨223, 29, 223, 33⟩) ⟨223, 20, 223, 33⟩), (.cmp (.name 4 ⟨223, 37, 223, 42⟩) .Eq (.name 6 ⟨223, 46, 223, 50⟩) ⟨223, 37, 223, 50⟩)] ⟨223, 20, 223, 50⟩) (.name 4 ⟨223, 11, 223, 16⟩) (.tup [(.name 2 ⟨223, 57, 223, 62⟩), (.sub (.name 4 ⟨223, 64, 223, 69⟩) (.cst (.int 0) 0 ⟨223, 70, 223, 71⟩) ⟨223, 64, 223, 72⟩), (.sub (.name 4 ⟨223, 74, 223, 79⟩) (.cst (.int 1) 0 ⟨223, 80, 223, 81⟩) ⟨223, 74, 223, 82⟩)] 0 ⟨223, 56, 223, 83⟩) ⟨223, 11, 223, 83⟩) ⟨223, 4, 223, 83⟩)]
noncomputable def df_match_at : Fn := ⟨4, [.loc, .loc, .loc, .loc, .loc, .glb (.fn 16), .glb (.str [108, 111, 115, 116])], db_match_at⟩
noncomputable def dns_tried : Names := [("node", .local), ("subject", .local), ("begin", .local), ("host", .local), ("pile", .local), ("way", .local), ("chain", .local), ("at", .local), ("named", .local), ("len", .globalImplicit), ("LOST", .globalImplicit), ("advanced", .globalImplicit), ("list", .globalImplicit)]
noncomputable def db_tried : List S := [(.asg (.name 4 ⟨225, 4, 225, 8⟩) (.list [(.tup [(.tup [(.name 0 ⟨225, 14, 225, 18⟩), (.cst .none 0 ⟨225, 20, 225, 24⟩)] 0 ⟨225, 13, 225, 25⟩), (.name 2 ⟨225, 27, 225, 32⟩), (.tup [] 0 ⟨225, 34, 225, 36⟩)] 0 ⟨225, 12, 225, 37⟩)] ⟨225, 11, 225, 38⟩) ⟨225, 4, 225, 38⟩), (.whl (.cmp (.call 9 ⟨226, 10, 226, 13⟩ [(.name 4 ⟨226, 14, 226, 18⟩)] ⟨226, 10, 226, 19⟩) .Gt (.cst (.int 0) 0 ⟨226, 22, 226, 23⟩) ⟨226, 10, 226, 23⟩) [(.asg (.name 5 ⟨227, 8, 227, 11⟩) (.meth (.name 4 ⟨227, 14, 227, 18⟩) 11 [] ⟨227, 14, 227, 22⟩ ⟨227, 14, 227, 24⟩ rfl) ⟨227, 8, 227, 24⟩), (.iff (.cmp (.name 5 ⟨228, 11, 228, 14⟩) .Is (.cst .none 0 ⟨228, 18, 228, 22⟩) ⟨228, 11, 228, 22⟩) [(.ret (.name 10 ⟨229, 19, 229, 23⟩) ⟨229, 12, 229, 23⟩)] [] ⟨228, 8, 229, 23⟩), (.asg (.tup [(.name 6 ⟨230, 8, 230, 13⟩), (.name 7 ⟨230, 15, 230, 17⟩), (.name 8 ⟨230, 19, 230, 24⟩)] 0 ⟨230, 8, 230, 24⟩) (.name 5 ⟨230, 27, 230, 30⟩) ⟨230, 8, 230, 30⟩), (.whl (.cmp (.name 6 ⟨231, 14, 231, 19⟩) .IsNot (.cst .none 0 ⟨231, 27, 231, 31⟩) ⟨231, 14, 231, 31⟩) [(.ex (.meth (.name 3 ⟨232, 12, 232, 16⟩) 17 [] ⟨232, 12, 232, 21⟩ ⟨232, 12, 232, 23⟩ rfl) ⟨232, 12, 232, 23⟩), (.asg (.name 5 ⟨233, 12, 233, 15⟩) (.call 11 ⟨233, 18, 233, 26⟩ [(.name 6 ⟨233, 27, 233, 32⟩), (.name 7 ⟨233, 34, 233, 36⟩), (.name 8 ⟨233, 38, 233, 43⟩), (.name 1 ⟨233, 45, 233, 52⟩), (.name 4 ⟨233, 54, 233, 58⟩), (.name 3 ⟨233, 60, 233, 64⟩)] ⟨233, 18, 233, 65⟩) ⟨233, 12, 233, 65⟩), (.iff (.cmp (.name 5 ⟨234, 15, 234, 18⟩) .Is (.cst .none 0 ⟨234, 22, 234, 26⟩) ⟨234, 15, 234, 26⟩) [(.brk ⟨235, 16, 235, 21⟩)] [] ⟨234, 12, 235, 21⟩), (.iff (.cmp (.name 5 ⟨236, 15, 236, 18⟩) .Eq (.name 10 ⟨236, 22, 236, 26⟩) ⟨236, 15, 236, 26⟩) [(.ret (.name 10 ⟨237, 23, 237, 27⟩) ⟨237, 16, 237, 27⟩)] [] ⟨236, 12, 237, 27⟩), (.asg (.tup [(.name 6 ⟨238, 12, 238, 17⟩), (.name 7 ⟨238, 19, 238, 21⟩), (.name 8 ⟨238, 23, 238, 28⟩)] 0 ⟨238, 12, 238, 28⟩) (.name 5 ⟨238, 31, 238, 34⟩) ⟨238, 12, 238, 34⟩)] ⟨231, 8, 238, 34⟩), (.iff (.cmp (.name 6 ⟨239, 11, 239, 16⟩) .Is (.cst .none 0 ⟨239, 20, 239, 24⟩) ⟨239, 11, 239, 24⟩) [(.ret (.tup [(.name 7 ⟨240, 20, 240, 22⟩), (.call 12 ⟨240, 24, 240, 28⟩ [(.name 8 ⟨240, 29, 240, 34⟩)] ⟨240, 24, 240, 35⟩)] 0 ⟨240, 19, 240, 36⟩) ⟨240, 12, 240, 36⟩)] [] ⟨239, 8, 240, 36⟩)] ⟨226, 4, 240, 36⟩), (.ret (.cst .none 0 ⟨241, 11, 241, 15⟩) ⟨241, 4, 241, 15⟩)]
noncomputable def df_tried : Fn := ⟨4, [.loc, .loc, .loc, .loc, .loc, .loc, .loc, .loc, .loc, .glb (.bi .len), .glb (.str [108, 111, 115, 116]), .glb (.fn 17), .glb (.bi .list)], db_tried⟩
noncomputable def dns_advanced : Names := [("chain", .local), ("at", .local), ("named", .local), ("subject", .local), ("pile", .local), ("host", .local), ("here", .local), ("rest", .local), ("kind", .local), ("value", .local), ("led_in", .globalImplicit), ("led_out", .globalImplicit), ("is_fail", .globalImplicit), ("pattern_of", .globalImplicit), ("steered", .globalImplicit), ("taken", .globalImplicit)]
noncomputable def db_advanced : List S := [(.asg (.tup [(.name 6 ⟨243, 4, 243, 8⟩), (.name 7 ⟨243, 10, 243, 14⟩)] 0 ⟨243, 4, 243, 14⟩) (.name 0 ⟨243, 17, 243, 22⟩) ⟨243, 4, 243, 22⟩), (.asg (.name 8 ⟨244, 4, 244, 8⟩) (.sub (.name 6 ⟨244, 11, 244, 15⟩) (.cst (.int 0) 0 ⟨244, 16, 244, 17⟩) ⟨244, 11, 244, 18⟩) ⟨244, 4, 244, 18⟩), (.iff (.cmp (.name 8 ⟨245, 7, 245, 11⟩) .In (.tup [(.cst (.str [99, 97, 116]) 0 ⟨245, 16, 245, 21⟩), (.cst (.str [97, 108, 116]) 0 ⟨245, 23, 245, 28⟩), (.cst (.str [97, 114, 98, 110, 111]) 0 ⟨245, 30, 245, 37⟩), (.cst (.str [108, 97, 116, 101, 114]) 0 ⟨245, 39, 245, 46⟩), (.cst (.str [110, 111, 119]) 0 ⟨245, 48, 245, 53⟩)] 0 ⟨245, 15, 245, 54⟩) ⟨245, 7, 245, 54⟩) [(.ret (.call 10 ⟨246, 15, 246, 21⟩ [(.name 6 ⟨246, 22, 246, 26⟩), (.name 7 ⟨246, 28, 246, 32⟩), (.name 1 ⟨246, 34, 246, 36⟩), (.name 2 ⟨246, 38, 246, 43⟩), (.name 4 ⟨246, 45, 246, 49⟩)] ⟨246, 15, 246, 50⟩) ⟨246, 8, 246, 50⟩)] [] ⟨245, 4, 246, 50⟩), (.iff (.cmp (.slc (.name 8 ⟨247, 7, 247, 11⟩) none (some (.cst (.int 4) 0 ⟨247, 13, 247, 14⟩)) none ⟨247, 12, 247, 14⟩ ⟨247, 7, 247, 15⟩) .Eq (.cst (.str [101, 110, 100, 32]) 0 ⟨247, 19, 247, 25⟩) ⟨247, 7, 247, 25⟩) [(.ret (.call 11 ⟨248, 15, 248, 22⟩ [(.name 6 ⟨248, 23, 248, 27⟩), (.name 7 ⟨248, 29, 248, 33⟩), (.name 1 ⟨248, 35, 248, 37⟩), (.name 2 ⟨248, 39, 248, 44⟩), (.name 3 ⟨248, 46, 248, 53⟩), (.name 4 ⟨248, 55, 248, 59⟩), (.name 5 ⟨248, 61, 248, 65⟩)] ⟨248, 15, 248, 66⟩) ⟨248, 8, 248, 66⟩)] [] ⟨247, 4, 248, 66⟩), (.iff (.cmp (.name 8 ⟨249, 7, 249, 11⟩) .Eq (.cst (.str [99, 117, 114, 115, 111, 114]) 0 ⟨249, 15, 249, 23⟩) ⟨249, 7, 249, 23⟩) [(.ret (.ite (.meth (.name 5 ⟨250, 36, 250, 40⟩) 18 [(.sub (.name 6 ⟨250, 48, 250, 52⟩) (.cst (.int 1) 0 ⟨250, 53, 250, 54⟩) ⟨250, 48, 250, 55⟩), (.name 1 ⟨250, 57, 250, 59⟩)] ⟨250, 36, 250, 47⟩ ⟨250, 36, 250, 60⟩ rfl) (.tup [(.name 7 ⟨250, 16, 250, 20⟩), (.name 1 ⟨250, 22, 250, 24⟩), (.name 2 ⟨250, 26, 250, 31⟩)] 0 ⟨250, 15, 250, 32⟩) (.cst .none 0 ⟨250, 66, 250, 70⟩) ⟨250, 15, 250, 70⟩) ⟨250, 8, 250, 70⟩)] [] ⟨249, 4, 250, 70⟩), (.iff (.cmp (.name 8 ⟨251, 7, 251, 11⟩) .Eq (.cst (.str [100, 101, 108, 97, 121]) 0 ⟨251, 15, 251, 22⟩) ⟨251, 7, 251, 22⟩) [(.asg (.name 9 ⟨252, 8, 252, 13⟩) (.meth (.name 5 ⟨252, 16, 252, 20⟩) 19 [(.sub (.name 6 ⟨252, 30, 252, 34⟩) (.cst (.int 1) 0 ⟨252, 35, 252, 36⟩) ⟨252, 30, 252, 37⟩)] ⟨252, 16, 252, 29⟩ ⟨252, 16, 252, 38⟩ rfl) ⟨252, 8, 252, 38⟩), (.ret (.ite (.call 12 ⟨253, 23, 253, 30⟩ [(.name 9 ⟨253, 31, 253, 36⟩)] ⟨253, 23, 253, 37⟩) (.cst .none 0 ⟨253, 15, 253, 19⟩) (.tup [(.tup [(.call 13 ⟨253, 45, 253, 55⟩ [(.name 9 ⟨253, 56, 253, 61⟩)] ⟨253, 45, 253, 62⟩), (.name 7 ⟨253, 64, 253, 68⟩)] 0 ⟨253, 44, 253, 69⟩), (.name 1 ⟨253, 71, 253, 73⟩), (.name 2 ⟨253, 75, 253, 80⟩)] 0 ⟨253, 43, 253, 81⟩) ⟨253, 15, 253, 81⟩) ⟨253, 8, 253, 81⟩)] [] ⟨251, 4, 253, 81⟩), (.iff (.cmp (.name 8 ⟨254, 7, 254, 11⟩) .In (.tup [(.cst (.str [102, 101, 110, 99, 101]) 0 ⟨254, 16, 254, 23⟩), (.cst (.str [97, 98, 111, 114, 116]) 0 ⟨254, 25, 254, 32⟩), (.cst (.str [102, 97, 105, 108]) 0 ⟨254, 34, 254, 40⟩), (.cst (.str [115, 117, 99, 99, 101, 101, 100]) 0 ⟨254, 42, 254, 51⟩)] 0 ⟨254, 15, 254, 52⟩) ⟨254, 7, 254, 52⟩) [(.ret (.call 14 ⟨255, 15, 255, 22⟩ [(.name 0 ⟨255, 23, 255, 28⟩), (.name 1 ⟨255, 30, 255, 32⟩), (.name 2 ⟨255, 34, 255, 39⟩), (.name 4 ⟨255, 41, 255, 45⟩)] ⟨255, 15, 255, 46⟩) ⟨255, 8, 255, 46⟩)] [] ⟨254, 4, 255, 46⟩), (.ret (.call 15 ⟨256, 11, 256, 16⟩ [(.name 6 ⟨256, 17, 256, 21⟩), (.name 7 ⟨256, 23, 256, 27⟩), (.name 1 ⟨256, 29, 256, 31⟩), (.name 2 ⟨256, 33, 256, 38⟩), (.name 3 ⟨256, 40, 256, 47⟩), (.name 4 ⟨256, 49, 256, 53⟩), (.name 5 ⟨256, 55, 256, 59⟩)] ⟨256, 11, 256, 60⟩) ⟨256, 4, 256, 60⟩)]
noncomputable def df_advanced : Fn := ⟨6, [.loc, .loc, .loc, .loc, .loc, .loc, .loc, .loc, .loc, .loc, .glb (.fn 18), .glb (.fn 19), .unk, .unk, .unk, .glb (.fn 20)], db_advanced⟩
noncomputable def dns_led_in : Names := [("here", .local), ("rest", .local), ("at", .local), ("named", .local), ("pile", .local), ("kind", .local)]
noncomputable def db_led_in : List S := [(.asg (.name 5 ⟨258, 4, 258, 8⟩) (.sub (.name 0 ⟨258, 11, 258, 15⟩) (.cst (.int 0) 0 ⟨258, 16, 258, 17⟩) ⟨258, 11, 258, 18⟩) ⟨258, 4, 258, 18⟩), (.iff (.cmp (.name 5 ⟨259, 7, 259, 11⟩) .Eq (.cst (.str [99, 97, 116]) 0 ⟨259, 15, 259, 20⟩) ⟨259, 7, 259, 20⟩) [(.ret (.tup [(.tup [(.sub (.name 0 ⟨260, 17, 260, 21⟩) (.cst (.int 1) 0 ⟨260, 22, 260, 23⟩) ⟨260, 17, 260, 24⟩), (.tup [(.sub (.name 0 ⟨260, 27, 260, 31⟩) (.cst (.int 2) 0 ⟨260, 32, 260, 33⟩) ⟨260, 27, 260, 34⟩), (.name 1 ⟨260, 36, 260, 40⟩)] 0 ⟨260, 26, 260, 41⟩)] 0 ⟨260, 16, 260, 42⟩), (.name 2 ⟨260, 44, 260, 46⟩), (.name 3 ⟨260, 48, 260, 53⟩)] 0 ⟨260, 15, 260, 54⟩) ⟨260, 8, 260, 54⟩)] [] ⟨259, 4, 260, 54⟩), (.iff (.cmp (.name 5 ⟨261, 7, 261, 11⟩) .Eq (.cst (.str [97, 108, 116]) 0 ⟨261, 15, 261, 20⟩) ⟨261, 7, 261, 20⟩) [(.ex (.meth (.name 4 ⟨262, 8, 262, 12⟩) 10 [(.tup [(.tup [(.sub (.name 0 ⟨262, 22, 262, 26⟩) (.cst (.int 2) 0 ⟨262, 27, 262, 28⟩) ⟨262, 22, 262, 29⟩), (.name 1 ⟨262, 31, 262, 35⟩)] 0 ⟨262, 21, 262, 36⟩), (.name 2 ⟨262, 38, 262, 40⟩), (.name 3 ⟨262, 42, 262, 47⟩)] 0 ⟨262, 20, 262, 48⟩)] ⟨262, 8, 262, 19⟩ ⟨262, 8, 262, 49⟩ rfl) ⟨262, 8, 262, 49⟩), (.ret (.tup [(.tup [(.sub (.name 0 ⟨263, 17, 263, 21⟩) (.cst (.int 1) 0 ⟨263, 22, 263, 23⟩) ⟨263, 17, 263, 24⟩), (.name 1 ⟨263, 26, 263, 30⟩)] 0 ⟨263, 16, 263, 31⟩), (.name 2 ⟨263, 33, 263, 35⟩), (.name 3 ⟨263, 37, 263, 42⟩)] 0 ⟨263, 15, 263, 43⟩) ⟨263, 8, 263, 43⟩)] [] ⟨261, 4, 263, 43⟩), (.iff (.cmp (.name 5 ⟨264, 7, 264, 11⟩) .Eq (.cst (.str [97, 114, 98, 110, 111]) 0 ⟨264, 15, 264, 22⟩) ⟨264, 7, 264, 22⟩) [(.ex (.meth (.name 4 ⟨265, 8, 265, 12⟩) 10 [(.tup [(.tup [(.sub (.name 0 ⟨265, 22, 265, 26⟩) (.cst (.int 1) 0 ⟨265, 27, 265, 28⟩) ⟨265, 22, 265, 29⟩), (.tup [(.tup [(.cst (.str [101, 110, 100, 32, 114, 111, 117, 110, 100]) 0 ⟨265, 33, 265, 44⟩), (.name 0 ⟨265, 46, 265, 50⟩), (.name 2 ⟨265, 52, 265, 54⟩)] 0 ⟨265, 32, 265, 55⟩), (.name 1 ⟨265, 57, 265, 61⟩)] 0 ⟨265, 31, 265, 62⟩)] 0 ⟨265, 21, 265, 63⟩), (.name 2 ⟨265, 65, 265, 67⟩), (.name 3 ⟨265, 69, 265, 74⟩)] 0 ⟨265, 20, 265, 75⟩)] ⟨265, 8, 265, 19⟩ ⟨265, 8, 265, 76⟩ rfl) ⟨265, 8, 265, 76⟩), (.ret (.tup [(.name 1 ⟨266, 16, 266, 20⟩), (.name 2 ⟨266, 22, 266, 24⟩), (.name 3 ⟨266, 26, 266, 31⟩)] 0 ⟨266, 15, 266, 32⟩) ⟨266, 8, 266, 32⟩)] [] ⟨264, 4, 266, 32⟩), (.ret (.tup [(.tup [(.sub (.name 0 ⟨267, 13, 267, 17⟩) (.cst (.int 1) 0 ⟨267, 18, 267, 19⟩) ⟨267, 13, 267, 20⟩), (.tup [(.tup [(.bin (.cst (.str [101, 110, 100, 32]) 0 ⟨267, 24, 267, 30⟩) .Add (.name 5 ⟨267, 33, 267, 37⟩) ⟨267, 24, 267, 37⟩), (.sub (.name 0 ⟨267, 39, 267, 43⟩) (.cst (.int 2) 0 ⟨267, 44, 267, 45⟩) ⟨267, 39, 267, 46⟩), (.name 2 ⟨267, 48, 267, 50⟩)] 0 ⟨267, 23, 267, 51⟩), (.name 1 ⟨267, 53, 267, 57⟩)] 0 ⟨267, 22, 267, 58⟩)] 0 ⟨267, 12, 267, 59⟩), (.name 2 ⟨267, 61, 267, 63⟩), (.name 3 ⟨267, 65, 267, 70⟩)] 0 ⟨267, 11, 267, 71⟩) ⟨267, 4, 267, 71⟩)]
noncomputable def df_led_in : Fn := ⟨5, [.loc, .loc, .loc, .loc, .loc, .loc], db_led_in⟩
noncomputable def dns_led_out : Names := [("here", .local), ("rest", .local), ("at", .local), ("named", .local), ("subject", .local), ("pile", .local), ("host", .local), ("kind", .local), ("told", .local), ("begin", .local)]
noncomputable def db_led_out : List S := [(.asg (.tup [(.name 7 ⟨269, 4, 269, 8⟩), (.name 8 ⟨269, 10, 269, 14⟩), (.name 9 ⟨269, 16, 269, 21⟩)] 0 ⟨269, 4, 269, 21⟩) (.name 0 ⟨269, 24, 269, 28⟩) ⟨269, 4, 269, 28⟩), (.iff (.cmp (.name 7 ⟨270, 7, 270, 11⟩) .Eq (.cst (.str [101, 110, 100, 32, 108, 97, 116, 101, 114]) 0 ⟨270, 15, 270, 26⟩) ⟨270, 7, 270, 26⟩) [(.ret (.tup [(.name 1 ⟨271, 16, 271, 20⟩), (.name 2 ⟨271, 22, 271, 24⟩), (.bin (.name 3 ⟨271, 26, 271, 31⟩) .Add (.tup [(.tup [(.name 8 ⟨271, 36, 271, 40⟩), (.slc (.name 4 ⟨271, 42, 271, 49⟩) (some (.name 9 ⟨271, 50, 271, 55⟩)) (some (.name 2 ⟨271, 56, 271, 58⟩)) none ⟨271, 50, 271, 58⟩ ⟨271, 42, 271, 59⟩)] 0 ⟨271, 35, 271, 60⟩)] 0 ⟨271, 34, 271, 62⟩) ⟨271, 26, 271, 62⟩)] 0 ⟨271, 15, 271, 63⟩) ⟨271, 8, 271, 63⟩)] [] ⟨270, 4, 271, 63⟩), (.iff (.cmp (.name 7 ⟨272, 7, 272, 11⟩) .Eq (.cst (.str [101, 110, 100, 32, 110, 111, 119]) 0 ⟨272, 15, 272, 24⟩) ⟨272, 7, 272, 24⟩) [(.ret (.ite (.meth (.name 6 ⟨273, 36, 273, 40⟩) 18 [(.name 8 ⟨273, 48, 273, 52⟩), (.slc (.name 4 ⟨273, 54, 273, 61⟩) (some (.name 9 ⟨273, 62, 273, 67⟩)) (some (.name 2 ⟨273, 68, 273, 70⟩)) none ⟨273, 62, 273, 70⟩ ⟨273, 54, 273, 71⟩)] ⟨273, 36, 273, 47⟩ ⟨273, 36, 273, 72⟩ rfl) (.tup [(.name 1 ⟨273, 16, 273, 20⟩), (.name 2 ⟨273, 22, 273, 24⟩), (.name 3 ⟨273, 26, 273, 31⟩)] 0 ⟨273, 15, 273, 32⟩) (.cst .none 0 ⟨273, 78, 273, 82⟩) ⟨273, 15, 273, 82⟩) ⟨273, 8, 273, 82⟩)] [] ⟨272, 4, 273, 82⟩), (.ret (.ite (.cmp (.name 2 ⟨274, 19, 274, 21⟩) .Eq (.name 9 ⟨274, 25, 274, 30⟩) ⟨274, 19, 274, 30⟩) (.cst .none 0 ⟨274, 11, 274, 15⟩) (.tup [(.tup [(.name 8 ⟨274, 38, 274, 42⟩), (.name 1 ⟨274, 44, 274, 48⟩)] 0 ⟨274, 37, 274, 49⟩), (.name 2 ⟨274, 51, 274, 53⟩), (.name 3 ⟨274, 55, 274, 60⟩)] 0 ⟨274, 36, 274, 61⟩) ⟨274, 11, 274, 61⟩) ⟨274, 4, 274, 61⟩)]
noncomputable def df_led_out : Fn := ⟨7, [.loc, .loc, .loc, .loc, .loc, .loc, .loc, .loc, .loc, .loc], db_led_out⟩
noncomputable def dns_taken : Names := [("here", .local), ("rest", .local), ("at", .local), ("named", .local), ("subject", .local), ("pile", .local), ("host", .local), ("kind", .local), ("ends", .local), ("end", .local), ("plain", .local), ("len", .globalImplicit), ("bal_ends", .globalImplicit), ("settled", .globalImplicit), ("plain_end", .globalImplicit)]
noncomputable def db_taken : List S := [(.asg (.name 7 ⟨284, 4, 284, 8⟩) (.sub (.name 0 ⟨284, 11, 284, 15⟩) (.cst (.int 0) 0 ⟨284, 16, 284, 17⟩) ⟨284, 11, 284, 18⟩) ⟨284, 4, 284, 18⟩), (.iff (.cmp (.name 7 ⟨285, 7, 285, 11⟩) .Eq (.cst (.str [97, 114, 98]) 0 ⟨285, 15, 285, 20⟩) ⟨285, 7, 285, 20⟩) [(.iff (.cmp (.name 2 ⟨286, 11, 286, 13⟩) .Lt (.call 11 ⟨286, 16, 286, 19⟩ [(.name 4 ⟨286, 20, 286, 27⟩)] ⟨286, 16, 286, 28⟩) ⟨286, 11, 286, 28⟩) [(.ex (.meth (.name 5 ⟨287, 12, 287, 16⟩) 10 [(.tup [(.tup [(.name 0 ⟨287, 26, 287, 30⟩), (.name 1 ⟨287, 32, 287, 36⟩)] 0 ⟨287, 25, 287, 37⟩), (.bin (.name 2 ⟨287, 39, 287, 41⟩) .Add (.cst (.int 1) 0 ⟨287, 44, 287, 45⟩) ⟨287, 39, 287, 45⟩), (.name 3 ⟨287, 47, 287, 52⟩)] 0 ⟨287, 24, 287, 53⟩)] ⟨287, 12, 287, 23⟩ ⟨287, 12, 287, 54⟩ rfl) ⟨287, 12, 287, 54⟩)] [] ⟨286, 8, 287, 54⟩), (.ret (.tup [(.name 1 ⟨288, 16, 288, 20⟩), (.name 2 ⟨288, 22, 288, 24⟩), (.name 3 ⟨288, 26, 288, 31⟩)] 0 ⟨288, 15, 288, 32⟩) ⟨288, 8, 288, 32⟩)] [] ⟨285, 4, 288, 32⟩), (.iff (.cmp (.name 7 ⟨289, 7, 289, 11⟩) .Eq (.cst (.str [98, 97, 108]) 0 ⟨289, 15, 289, 20⟩) ⟨289, 7, 289, 20⟩) [(.asg (.name 8 ⟨290, 8, 290, 12⟩) (.call 12 ⟨290, 15, 290, 23⟩ [(.name 4 ⟨290, 24, 290, 31⟩), (.name 2 ⟨290, 33, 290, 35⟩)] ⟨290, 15, 290, 36⟩) ⟨290, 8, 290, 36⟩), (.fr (.name 9 ⟨291, 12, 291, 15⟩) (.slc (.name 8 ⟨291, 19, 291, 23⟩) none (some (.cst (.int 0) 0 ⟨291, 25, 291, 26⟩)) (some (.neg (.cst (.int 1) 0 ⟨291, 28, 291, 29⟩) ⟨291, 27, 291, 29⟩)) ⟨291, 24, 291, 29⟩ ⟨291, 19, 291, 30⟩) [(.ex (.meth (.name 5 ⟨292, 12, 292, 16⟩) 10 [(.tup [(.name 1 ⟨292, 25, 292, 29⟩), (.name 9 ⟨292, 31, 292, 34⟩), (.name 3 ⟨292, 36, 292, 41⟩)] 0 ⟨292, 24, 292, 42⟩)] ⟨292, 12, 292, 23⟩ ⟨292, 12, 292, 43⟩ rfl) ⟨292, 12, 292, 43⟩)] ⟨291, 8, 292, 43⟩), (.ret (.ite (.cmp (.call 11 ⟨293, 41, 293, 44⟩ [(.name 8 ⟨293, 45, 293, 49⟩)] ⟨293, 41, 293, 50⟩) .Gt (.cst (.int 0) 0 ⟨293, 53, 293, 54⟩) ⟨293, 41, 293, 54⟩) (.tup [(.name 1 ⟨293, 16, 293, 20⟩), (.sub (.name 8 ⟨293, 22, 293, 26⟩) (.cst (.int 0) 0 ⟨293, 27, 293, 28⟩) ⟨293, 22, 293, 29⟩), (.name 3 ⟨293, 31, 293, 36⟩)] 0 ⟨293, 15, 293, 37⟩) (.cst .none 0 ⟨293, 60, 293, 64⟩) ⟨293, 15, 293, 64⟩) ⟨293, 8, 293, 64⟩)] [] ⟨289, 4, 293, 64⟩), (.asg (.name 10 ⟨294, 4, 294, 9⟩) (.call 13 ⟨294, 12, 294, 19⟩ [(.name 0 ⟨294, 20, 294, 24⟩), (.name 6 ⟨294, 26, 294, 30⟩)] ⟨294, 12, 294, 31⟩) ⟨294, 4, 294, 31⟩), (.iff (.cmp (.name 10 ⟨295, 7, 295, 12⟩) .Is (.cst .none 0 ⟨295, 16, 295, 20⟩) ⟨295, 7, 295, 20⟩) [(.ret (.cst .none 0 ⟨296, 15, 296, 19⟩) ⟨296, 8, 296, 19⟩)] [] ⟨295, 4, 296, 19⟩), (.asg (.name 9 ⟨297, 4, 297, 7⟩) (.call 14 ⟨297, 10, 297, 19⟩ [(.name 10 ⟨297, 20, 297, 25⟩), (.name 4 ⟨297, 27, 297, 34⟩), (.name 2 ⟨297, 36, 297, 38⟩)] ⟨297, 10, 297, 39⟩) ⟨297, 4, 297, 39⟩), (.ret (.ite (.cmp (.name 9 ⟨298, 19, 298, 22⟩) .Is (.cst .none 0 ⟨298, 26, 298, 30⟩) ⟨298, 19, 298, 30⟩) (.cst .none 0 ⟨298, 11, 298, 15⟩) (.tup [(.name 1 ⟨298, 37, 298, 41⟩), (.name 9 ⟨298, 43, 298, 46⟩), (.name 3 ⟨298, 48, 298, 53⟩)] 0 ⟨298, 36, 298, 54⟩) ⟨298, 11, 298, 54⟩) ⟨298, 4, 298, 54⟩)]
noncomputable def df_taken : Fn := ⟨7, [.loc, .loc, .loc, .loc, .loc, .loc, .loc, .loc, .loc, .loc, .loc, .glb (.bi .len), .unk, .glb (.fn 9), .glb (.fn 13)], db_taken⟩
noncomputable def dns_law_edges : Names := [("letters", .local), ("code", .local), ("told", .local), ("edges", .local), ("rest", .local), ("left", .local), ("host", .local), ("node", .local), ("edge", .local), ("PlainHost", .globalImplicit), ("NameRef", .globalImplicit), ("replace_once", .globalImplicit), ("match_plain", .globalImplicit), ("%d", .local)]
noncomputable def db_law_edges : List S := [(.swp [(3, ⟨301, 4, 301, 9⟩), (4, ⟨301, 11, 301, 15⟩), (5, ⟨301, 17, 301, 21⟩)] 0 ⟨301, 4, 301, 21⟩ [(.cst (.str []) 0 ⟨301, 25, 301, 27⟩), (.name 0 ⟨301, 29, 301, 36⟩), (.name 1 ⟨301, 38, 301, 42⟩)] 0 ⟨301, 24, 301, 43⟩ ⟨301, 4, 301, 43⟩), (.whl (.cmp (.name 5 ⟨302, 10, 302, 14⟩) .NotEq (.cst (.str []) 0 ⟨302, 18, 302, 20⟩) ⟨302, 10, 302, 20⟩) [(.asg (.name 6 ⟨303, 8, 303, 12⟩) (.call 9 ⟨303, 15, 303, 24⟩ [(.dict0 ⟨303, 25, 303, 27⟩), (.cst (.int 9999) 0 ⟨303, 29, 303, 33⟩), (.list [] ⟨303, 35, 303, 37⟩)] ⟨303, 15, 303, 38⟩) ⟨303, 8, 303, 38⟩), (.asg (.name 7 ⟨304, 8, 304, 12⟩) (.tup [(.cst (.str [110, 111, 119]) 0 ⟨304, 16, 304, 21⟩), (.tup [(.cst (.str [110, 111, 116, 97, 110, 121]) 0 ⟨304, 24, 304, 32⟩), (.name 5 ⟨304, 34, 304, 38⟩)] 0 ⟨304, 23, 304, 39⟩), (.call 10 ⟨304, 41, 304, 48⟩ [(.cst (.str [118, 97, 114]) 0 ⟨304, 49, 304, 54⟩), (.cst .none 0 ⟨304, 56, 304, 60⟩), (.cst (.str [88]) 0 ⟨304, 62, 304, 65⟩)] ⟨304, 41, 304, 66⟩)] 0 ⟨304, 15, 304, 67⟩) ⟨304, 8, 304, 67⟩), (.asg (.name 4 ⟨305, 8, 305, 12⟩) (.call 11 ⟨305, 15, 305, 27⟩ [(.name 12 ⟨305, 28, 305, 39⟩), (.name 7 ⟨305, 41, 305, 45⟩), (.name 4 ⟨305, 47, 305, 51⟩), (.cst (.bool false) 0 ⟨305, 53, 305, 58⟩), (.name 6 ⟨305, 60, 305, 64⟩), (.lam 13 0 ⟨305, 66, 305, 81⟩)] ⟨305, 15, 305, 82⟩) ⟨305, 8, 305, 82⟩), (.iff (.cmp (.name 4 ⟨306, 11, 306, 15⟩) .Is (.cst .none 0 ⟨306, 19, 306, 23⟩) ⟨306, 11, 306, 23⟩) [(.ret (.cst .none 0 ⟨307, 19, 307, 23⟩) ⟨307, 12, 307, 23⟩)] [] ⟨306, 8, 307, 23⟩), (.asg (.name 8 ⟨308, 8, 308, 12⟩) (.bin (.sub (.attr (.name 6 ⟨308, 15, 308, 19⟩) 0 ⟨308, 15, 308, 26⟩) (.cst (.str [88]) 0 ⟨308, 27, 308, 30⟩) ⟨308, 15, 308, 31⟩) .Add (.sub (.name 5 ⟨308, 34, 308, 38⟩) (.cst (.int 0) 0 ⟨308, 39, 308, 40⟩) ⟨308, 34, 308, 41⟩) ⟨308, 15, 308, 41⟩) ⟨308, 8, 308, 41⟩), (.swp [(3, ⟨309, 8, 309, 13⟩), (5, ⟨309, 15, 309, 19⟩), (2, ⟨309, 21, 309, 25⟩)] 0 ⟨309, 8, 309, 25⟩ [(.bin (.bin (.name 3 ⟨309, 29, 309, 34⟩) .Add (.ite (.cmp (.bin (.name 2 ⟨309, 52, 309, 56⟩) .Mod (.cst (.int 2) 0 ⟨309, 59, 309, 60⟩) ⟨309, 52, 309, 60⟩) .Eq (.cst (.int 1) 0 ⟨309, 64, 309, 65⟩) ⟨309, 52, 309, 65⟩) (.slc (.name 8 ⟨309, 38, 309, 42⟩) none none (some (.neg (.cst (.int 1) 0 ⟨309, 46, 309, 47⟩) ⟨309, 45, 309, 47⟩)) ⟨309, 43, 309, 47⟩ ⟨309, 38, 309, 48⟩) (.name 8 ⟨309, 71, 309, 75⟩) ⟨309, 38, 309, 75⟩) ⟨309, 29, 309, 76⟩) .Add (.cst (.str [44]) 0 ⟨309, 79, 309, 82⟩) ⟨309, 29, 309, 82⟩), (.slc (.name 5 ⟨309, 84, 309, 88⟩) (some (.cst (.int 1) 0 ⟨309, 89, 309, 90⟩)) none none ⟨309, 89, 309, 91⟩ ⟨309, 84, 309, 92⟩), (.bin (.name 2 ⟨309, 94, 309, 98⟩) .FloorDiv (.cst (.int 2) 0 ⟨309, 102, 309, 103⟩) ⟨309, 94, 309, 103⟩)] 0 ⟨309, 28, 309, 104⟩ ⟨309, 8, 309, 104⟩)] ⟨302, 4, 309, 104⟩), (.ret (.bin (.bin (.name 3 ⟨310, 11, 310, 16⟩) .Add (.name 4 ⟨310, 19, 310, 23⟩) ⟨310, 11, 310, 23⟩) .Add (.cst (.str [44]) 0 ⟨310, 26, 310, 29⟩) ⟨310, 11, 310, 29⟩) ⟨310, 4, 310, 29⟩)]
noncomputable def df_law_edges : Fn := ⟨3, [.loc, .loc, .loc, .loc, .loc, .loc, .loc, .loc, .loc, .glb (.cls 1), .glb (.cls 0), .glb (.fn 3), .glb (.fn 14), .nst 0 0 []], db_law_edges⟩
noncomputable def dns_law : Names := [("script", .local), ("usual", .local), ("cells", .cell), ("letters", .cell), ("code", .local), ("edges", .cell), ("told", .local), ("left", .local), ("turn", .local), ("letter", .local), ("due", .local), ("least", .local), ("beside", .local), ("node", .local), ("host", .local), ("len", .globalImplicit), ("range", .globalImplicit), ("_law_edges", .globalImplicit), ("NameRef", .globalImplicit), ("PlainHost", .globalImplicit), ("replace_once", .globalImplicit), ("match_plain", .globalImplicit), ("%n", .local), ("%d", .local)]
noncomputable def db_law : List S := [(.asg (.name 1 ⟨312, 4, 312, 9⟩) (.list [(.cst (.int 2) 0 ⟨312, 13, 312, 14⟩), (.cst (.int 2) 0 ⟨312, 16, 312, 17⟩), (.cst (.int 1) 0 ⟨312, 19, 312, 20⟩)] ⟨312, 12, 312, 21⟩) ⟨312, 4, 312, 21⟩), (.asg (.name 2 ⟨313, 4, 313, 9⟩) (.bin (.comp (.call 2 ⟨313, 13, 313, 16⟩ [(.call 3 ⟨313, 17, 313, 20⟩ [(.name 1 ⟨313, 21, 313, 24⟩)] ⟨313, 17, 313, 25⟩)] ⟨313, 13, 313, 26⟩) (.one 1 ⟨313, 31, 313, 34⟩) (.slc (.name 0 ⟨313, 38, 313, 44⟩) none (some (.cst (.int 3) 0 ⟨313, 46, 313, 47⟩)) none ⟨313, 45, 313, 47⟩ ⟨313, 38, 313, 48⟩) [] 0 3 22 [.loc, .loc, .glb 0, .glb 1] { kind := PySem.ScopeKind.function, names := [((PySem.Str.ofString ".0"), PySem.NameKind.local), ((PySem.Str.ofString "one"), PySem.NameKind.local), ((PySem.Str.ofString "abs"), PySem.NameKind.globalImplicit), ((PySem.Str.ofString "int"), PySem.NameKind.globalImplicit)], isGenerator := false, isCoroutine := false, more := [] } dcok0 ⟨313, 12, 313, 49⟩) .Add (.slc (.name 1 ⟨313, 52, 313, 57⟩) (some (.call 15 ⟨313, 58, 313, 61⟩ [(.slc (.name 0 ⟨313, 62, 313, 68⟩) none (some (.cst (.int 3) 0 ⟨313, 70, 313, 71⟩)) none ⟨313, 69, 313, 71⟩ ⟨313, 62, 313, 72⟩)] ⟨313, 58, 313, 73⟩)) none none ⟨313, 58, 313, 74⟩ ⟨313, 52, 313, 75⟩) ⟨313, 12, 313, 75⟩) ⟨313, 4, 313, 75⟩), (.asg (.name 3 ⟨314, 4, 314, 11⟩) (.slc (.cst (.str [97, 98, 99, 100, 101]) 0 ⟨314, 14, 314, 21⟩) none (some (.bin (.cst (.int 2) 0 ⟨314, 23, 314, 24⟩) .Add (.bin (.sub (.name 2 ⟨314, 27, 314, 32⟩) (.cst (.int 0) 0 ⟨314, 33, 314, 34⟩) ⟨314, 27, 314, 35⟩) .Mod (.cst (.int 4) 0 ⟨314, 38, 314, 39⟩) ⟨314, 27, 314, 39⟩) ⟨314, 23, 314, 39⟩)) none ⟨314, 22, 314, 39⟩ ⟨314, 14, 314, 40⟩) ⟨314, 4, 314, 40⟩), (.asg (.name 4 ⟨315, 4, 315, 8⟩) (.meth (.cst (.str []) 0 ⟨315, 11, 315, 13⟩) 13 [(.comp (.sub (.name 4 ⟨315, 20, 315, 27⟩) (.bin (.bin (.sub (.name 3 ⟨315, 28, 315, 33⟩) (.cst (.int 1) 0 ⟨315, 34, 315, 35⟩) ⟨315, 28, 315, 36⟩) .FloorDiv (.bin (.call 2 ⟨315, 40, 315, 43⟩ [(.name 4 ⟨315, 44, 315, 51⟩)] ⟨315, 40, 315, 52⟩) .Pow (.name 1 ⟨315, 56, 315, 58⟩) ⟨315, 40, 315, 58⟩) ⟨315, 28, 315, 58⟩) .Mod (.call 2 ⟨315, 61, 315, 64⟩ [(.name 4 ⟨315, 65, 315, 72⟩)] ⟨315, 61, 315, 73⟩) ⟨315, 28, 315, 73⟩) ⟨315, 20, 315, 74⟩) (.one 1 ⟨315, 79, 315, 81⟩) (.call 16 ⟨315, 85, 315, 90⟩ [(.bin (.call 15 ⟨315, 91, 315, 94⟩ [(.name 3 ⟨315, 95, 315, 102⟩)] ⟨315, 91, 315, 103⟩) .Sub (.cst (.int 2) 0 ⟨315, 106, 315, 107⟩) ⟨315, 91, 315, 107⟩)] ⟨315, 85, 315, 108⟩) [] 8 3 22 [.loc, .loc, .glb 2, .out 2, .out 3] { kind := PySem.ScopeKind.function, names := [((PySem.Str.ofString ".0"), PySem.NameKind.local), ((PySem.Str.ofString "at"), PySem.NameKind.local), ((PySem.Str.ofString "len"), PySem.NameKind.globalImplicit), ((PySem.Str.ofString "cells"), PySem.NameKind.free), ((PySem.Str.ofString "letters"), PySem.NameKind.free)], isGenerator := false, isCoroutine := false, more := [] } dcok1 ⟨315, 19, 315, 109⟩)] ⟨315, 11, 315, 18⟩ ⟨315, 11, 315, 110⟩ rfl) ⟨315, 4, 315, 110⟩), (.asg (.tup [(.name 5 ⟨316, 4, 316, 9⟩), (.name 6 ⟨316, 11, 316, 15⟩), (.name 7 ⟨316, 17, 316, 21⟩)] 0 ⟨316, 4, 316, 21⟩) (.tup [(.call 17 ⟨316, 25, 316, 35⟩ [(.name 3 ⟨316, 36, 316, 43⟩), (.name 4 ⟨316, 45, 316, 49⟩), (.sub (.name 2 ⟨316, 51, 316, 56⟩) (.cst (.int 2) 0 ⟨316, 57, 316, 58⟩) ⟨316, 51, 316, 59⟩)] ⟨316, 25, 316, 60⟩), (.cst (.str []) 0 ⟨316, 62, 316, 64⟩), (.name 3 ⟨316, 66, 316, 73⟩)] 0 ⟨316, 24, 316, 74⟩) ⟨316, 4, 316, 74⟩), (.iff (.cmp (.name 5 ⟨317, 7, 317, 12⟩) .Is (.cst .none 0 ⟨317, 16, 317, 20⟩) ⟨317, 7, 317, 20⟩) [(.ret (.cst (.bool false) 0 ⟨318, 15, 318, 20⟩) ⟨318, 8, 318, 20⟩)] [] ⟨317, 4, 318, 20⟩), (.fr (.name 8 ⟨319, 8, 319, 12⟩) (.call 16 ⟨319, 16, 319, 21⟩ [(.bin (.call 15 ⟨319, 22, 319, 25⟩ [(.name 3 ⟨319, 26, 319, 33⟩)] ⟨319, 22, 319, 34⟩) .Sub (.cst (.int 1) 0 ⟨319, 37, 319, 38⟩) ⟨319, 22, 319, 38⟩)] ⟨319, 16, 319, 39⟩) [(.fr (.name 9 ⟨320, 12, 320, 18⟩) (.name 3 ⟨320, 22, 320, 29⟩) [(.asg (.name 10 ⟨321, 12, 321, 15⟩) (.ite (.cmp (.name 9 ⟨321, 51, 321, 57⟩) .In (.name 7 ⟨321, 61, 321, 65⟩) ⟨321, 51, 321, 65⟩) (.bin (.cst (.int 1) 0 ⟨321, 18, 321, 19⟩) .Add (.meth (.slc (.name 4 ⟨321, 22, 321, 26⟩) (some (.name 8 ⟨321, 27, 321, 31⟩)) none none ⟨321, 27, 321, 32⟩ ⟨321, 22, 321, 33⟩) 16 [(.name 9 ⟨321, 40, 321, 46⟩)] ⟨321, 22, 321, 39⟩ ⟨321, 22, 321, 47⟩ rfl) ⟨321, 18, 321, 47⟩) (.cst (.int 0) 0 ⟨321, 71, 321, 72⟩) ⟨321, 18, 321, 72⟩) ⟨321, 12, 321, 72⟩), (.iff (.cmp (.meth (.name 5 ⟨322, 15, 322, 20⟩) 16 [(.name 9 ⟨322, 27, 322, 33⟩)] ⟨322, 15, 322, 26⟩ ⟨322, 15, 322, 34⟩ rfl) .NotEq (.name 10 ⟨322, 38, 322, 41⟩) ⟨322, 15, 322, 41⟩) [(.ret (.cst (.bool false) 0 ⟨323, 23, 323, 28⟩) ⟨323, 16, 323, 28⟩)] [] ⟨322, 12, 323, 28⟩)] ⟨320, 8, 323, 28⟩), (.iff (.cmp (.meth (.name 5 ⟨324, 11, 324, 16⟩) 16 [(.cst (.str [44]) 0 ⟨324, 23, 324, 26⟩)] ⟨324, 11, 324, 22⟩ ⟨324, 11, 324, 27⟩ rfl) .Eq (.cst (.int 1) 0 ⟨324, 31, 324, 32⟩) ⟨324, 11, 324, 32⟩) [(.ret (.cmp (.name 6 ⟨325, 19, 325, 23⟩) .Eq (.name 4 ⟨325, 27, 325, 31⟩) ⟨325, 19, 325, 31⟩) ⟨325, 12, 325, 31⟩)] [] ⟨324, 8, 325, 31⟩), (.asg (.name 11 ⟨326, 8, 326, 13⟩) (.sub (.comp (.name 1 ⟨326, 17, 326, 23⟩) (.one 1 ⟨326, 28, 326, 34⟩) (.name 7 ⟨326, 38, 326, 42⟩) [(.cmp (.meth (.name 2 ⟨326, 46, 326, 51⟩) 16 [(.name 1 ⟨326, 58, 326, 64⟩)] ⟨326, 46, 326, 57⟩ ⟨326, 46, 326, 65⟩ rfl) .Eq (.cst (.int 1) 0 ⟨326, 69, 326, 70⟩) ⟨326, 46, 326, 70⟩)] 9 3 22 [.loc, .loc, .out 5] { kind := PySem.ScopeKind.function, names := [((PySem.Str.ofString ".0"), PySem.NameKind.local), ((PySem.Str.ofString "letter"), PySem.NameKind.local), ((PySem.Str.ofString "edges"), PySem.NameKind.free)], isGenerator := false, isCoroutine := false, more := [] } dcok2 ⟨326, 16, 326, 71⟩) (.cst (.int 0) 0 ⟨326, 72, 326, 73⟩) ⟨326, 16, 326, 74⟩) ⟨326, 8, 326, 74⟩), (.asg (.name 12 ⟨327, 8, 327, 14⟩) (.tup [(.cst (.str [110, 111, 119]) 0 ⟨327, 18, 327, 23⟩), (.tup [(.cst (.str [110, 111, 116, 97, 110, 121]) 0 ⟨327, 26, 327, 34⟩), (.cst (.str [44]) 0 ⟨327, 36, 327, 39⟩)] 0 ⟨327, 25, 327, 40⟩), (.call 18 ⟨327, 42, 327, 49⟩ [(.cst (.str [118, 97, 114]) 0 ⟨327, 50, 327, 55⟩), (.cst .none 0 ⟨327, 57, 327, 61⟩), (.cst (.str [89]) 0 ⟨327, 63, 327, 66⟩)] ⟨327, 42, 327, 67⟩)] 0 ⟨327, 17, 327, 68⟩) ⟨327, 8, 327, 68⟩), (.asg (.name 13 ⟨328, 8, 328, 12⟩) (.tup [(.cst (.str [99, 97, 116]) 0 ⟨328, 16, 328, 21⟩), (.name 12 ⟨328, 23, 328, 29⟩), (.tup [(.cst (.str [99, 97, 116]) 0 ⟨328, 32, 328, 37⟩), (.tup [(.cst (.str [99, 104, 97, 114, 115]) 0 ⟨328, 40, 328, 47⟩), (.name 11 ⟨328, 49, 328, 54⟩)] 0 ⟨328, 39, 328, 55⟩), (.tup [(.cst (.str [99, 104, 97, 114, 115]) 0 ⟨328, 58, 328, 65⟩), (.cst (.str [44]) 0 ⟨328, 67, 328, 70⟩)] 0 ⟨328, 57, 328, 71⟩)] 0 ⟨328, 31, 328, 72⟩)] 0 ⟨328, 15, 328, 73⟩) ⟨328, 8, 328, 73⟩), (.asg (.name 13 ⟨329, 8, 329, 12⟩) (.tup [(.cst (.str [97, 108, 116]) 0 ⟨329, 16, 329, 21⟩), (.tup [(.cst (.str [99, 97, 116]) 0 ⟨329, 24, 329, 29⟩), (.tup [(.cst (.str [99, 104, 97, 114, 115]) 0 ⟨329, 32, 329, 39⟩), (.name 11 ⟨329, 41, 329, 46⟩)] 0 ⟨329, 31, 329, 47⟩), (.tup [(.cst (.str [99, 97, 116]) 0 ⟨329, 50, 329, 55⟩), (.name 12 ⟨329, 57, 329, 63⟩), (.tup [(.cst (.str [99, 104, 97, 114, 115]) 0 ⟨329, 66, 329, 73⟩), (.cst (.str [44]) 0 ⟨329, 75, 329, 78⟩)] 0 ⟨329, 65, 329, 79⟩)] 0 ⟨329, 49, 329, 80⟩)] 0 ⟨329, 23, 329, 81⟩), (.name 13 ⟨329, 83, 329, 87⟩)] 0 ⟨329, 15, 329, 88⟩) ⟨329, 8, 329, 88⟩), (.asg (.name 14 ⟨330, 8, 330, 12⟩) (.call 19 ⟨330, 15, 330, 24⟩ [(.dict0 ⟨330, 25, 330, 27⟩), (.cst (.int 9999) 0 ⟨330, 29, 330, 33⟩), (.list [] ⟨330, 35, 330, 37⟩)] ⟨330, 15, 330, 38⟩) ⟨330, 8, 330, 38⟩), (.asg (.name 5 ⟨331, 8, 331, 13⟩) (.call 20 ⟨331, 16, 331, 28⟩ [(.name 21 ⟨331, 29, 331, 40⟩), (.name 13 ⟨331, 42, 331, 46⟩), (.name 5 ⟨331, 48, 331, 53⟩), (.cst (.bool false) 0 ⟨331, 55, 331, 60⟩), (.name 14 ⟨331, 62, 331, 66⟩), (.lam 23 1 ⟨331, 68, 331, 83⟩)] ⟨331, 16, 331, 84⟩) ⟨331, 8, 331, 84⟩), (.iff (.cmp (.name 5 ⟨332, 11, 332, 16⟩) .Is (.cst .none 0 ⟨332, 20, 332, 24⟩) ⟨332, 11, 332, 24⟩) [(.ret (.cst (.bool false) 0 ⟨333, 19, 333, 24⟩) ⟨333, 12, 333, 24⟩)] [] ⟨332, 8, 333, 24⟩), (.swp [(6, ⟨334, 8, 334, 12⟩), (7, ⟨334, 14, 334, 18⟩)] 0 ⟨334, 8, 334, 18⟩ [(.bin (.name 6 ⟨334, 22, 334, 26⟩) .Add (.sub (.attr (.name 14 ⟨334, 29, 334, 33⟩) 0 ⟨334, 29, 334, 40⟩) (.cst (.str [89]) 0 ⟨334, 41, 334, 44⟩) ⟨334, 29, 334, 45⟩) ⟨334, 22, 334, 45⟩), (.meth (.name 7 ⟨334, 47, 334, 51⟩) 14 [(.name 11 ⟨334, 60, 334, 65⟩), (.cst .emp 0 ⟨334, 67, 334, 69⟩)] ⟨334, 47, 334, 59⟩ ⟨334, 47, 334, 70⟩ rfl)] 0 ⟨334, 21, 334, 71⟩ ⟨334, 8, 334, 71⟩)] ⟨319, 4, 334, 71⟩), (.ret (.cst (.bool false) 0 ⟨335, 11, 335, 16⟩) ⟨335, 4, 335, 16⟩)]
noncomputable def dFT : List Fn := [df_give_names, df_three_pieces, df_spliced, df_replace_once, df_NameRef___init, df_PlainHost___init, df_PlainHost_assign, df_PlainHost_step, df_is_delayed, df_settled, df_chars_end, df_notany_at, df_one_end, df_plain_end, df_match_plain, df_match_at, df_tried, df_advanced, df_led_in, df_led_out, df_taken, df_law_edges]
noncomputable def dCT : List Cl := [⟨some 4, []⟩, ⟨some 5, [(18, 6), (17, 7), (19, 22)]⟩]
noncomputable def dGV : List (Option MV) := [some (.bi .abs), some (.bi .int), some (.bi .len), some (.bi .range), none, none, none, none, some (.fn 14), some (.cls 1), none]
end Mine

open PySem PySem.W PyProof.Rows PySem.Calls
namespace Mine
set_option autoImplicit false
set_option backward.match.sparseCases false
set_option linter.unusedVariables false
set_option linter.unusedSimpArgs false
set_option maxRecDepth 100000
set_option maxHeartbeats 4000000
noncomputable def noM : Nat → List MV → List MO → Option ((MV × List MO) × Nat) := fun _ _ _ => none
noncomputable def rB (n : Nat) : Rec := run dFT dCT dGV noM n
theorem rB_call (n : Nat) : (rB (n + 1)).call = stepCall dFT dCT noM (rB n) := rfl
theorem rB_e (n : Nat) : (rB (n + 1)).e = stepE dCT dGV (rB n) := rfl
theorem rB_es (n : Nat) : (rB (n + 1)).es = stepEs (rB n) := rfl
theorem rB_eo (n : Nat) : (rB (n + 1)).eo = stepEo (rB n) := rfl
theorem rB_t (n : Nat) : (rB (n + 1)).t = stepT (rB n) := rfl
theorem rB_ts (n : Nat) : (rB (n + 1)).ts = stepTs (rB n) := rfl
theorem rB_a (n : Nat) : (rB (n + 1)).a = stepA dCT (rB n) := rfl
theorem rB_as (n : Nat) : (rB (n + 1)).as = stepAs (rB n) := rfl
theorem rB_s (n : Nat) : (rB (n + 1)).s = stepS dCT (rB n) := rfl
theorem rB_ss (n : Nat) : (rB (n + 1)).ss = stepSs (rB n) := rfl
theorem rB_wh (n : Nat) : (rB (n + 1)).wh = stepWh (rB n) := rfl
theorem rB_fr (n : Nat) : (rB (n + 1)).fr = stepFr (rB n) := rfl
theorem c_PlainHost_assign (n : Nat) (v0 v1 v2 : MV) (σ : List MO) : (rB (n + 1)).call (.fn 6) [v0, v1, v2] σ = ((rB n).ss db_PlainHost_assign [.loc (some v0), .loc (some v1), .loc (some v2)] σ).bind retN := rfl
theorem c_PlainHost_step (n : Nat) (v0 : MV) (σ : List MO) : (rB (n + 1)).call (.fn 7) [v0] σ = ((rB n).ss db_PlainHost_step [.loc (some v0), .unk] σ).bind retN := rfl
theorem c_is_delayed (n : Nat) (v0 : MV) (σ : List MO) : (rB (n + 1)).call (.fn 8) [v0] σ = ((rB n).ss db_is_delayed [.loc (some v0), .glb (.bi .isinstance), .glb (.bi .tuple)] σ).bind retN := rfl
theorem c_settled (n : Nat) (v0 v1 : MV) (σ : List MO) : (rB (n + 1)).call (.fn 9) [v0, v1] σ = ((rB n).ss db_settled [.loc (some v0), .loc (some v1), .loc none, .glb (.tup [.str [108, 101, 110], .str [112, 111, 115], .str [114, 112, 111, 115], .str [116, 97, 98], .str [114, 116, 97, 98]]), .glb (.tup [.str [97, 110, 121], .str [110, 111, 116, 97, 110, 121], .str [115, 112, 97, 110], .str [98, 114, 101, 97, 107]]), .glb (.fn 8), .unk, .unk, .unk] σ).bind retN := rfl
theorem c_one_end (n : Nat) (v0 v1 v2 v3 : MV) (σ : List MO) : (rB (n + 1)).call (.fn 12) [v0, v1, v2, v3] σ = ((rB n).ss db_one_end [.loc (some v0), .loc (some v1), .loc (some v2), .loc (some v3), .glb (.fn 10), .unk, .unk, .unk, .unk, .unk, .unk, .glb (.fn 11), .unk, .unk] σ).bind retN := rfl
theorem c_plain_end (n : Nat) (v0 v1 v2 : MV) (σ : List MO) : (rB (n + 1)).call (.fn 13) [v0, v1, v2] σ = ((rB n).ss db_plain_end [.loc (some v0), .loc (some v1), .loc (some v2), .unk, .glb (.fn 12)] σ).bind retN := rfl
theorem c_match_plain (n : Nat) (v0 v1 v2 v3 : MV) (σ : List MO) : (rB (n + 1)).call (.fn 14) [v0, v1, v2, v3] σ = ((rB n).ss db_match_plain [.loc (some v0), .loc (some v1), .loc (some v2), .loc (some v3), .loc none, .loc none, .glb (.bi .range), .glb (.bi .len), .glb (.fn 15), .glb (.str [108, 111, 115, 116])] σ).bind retN := rfl
theorem c_match_at (n : Nat) (v0 v1 v2 v3 : MV) (σ : List MO) : (rB (n + 1)).call (.fn 15) [v0, v1, v2, v3] σ = ((rB n).ss db_match_at [.loc (some v0), .loc (some v1), .loc (some v2), .loc (some v3), .loc none, .glb (.fn 16), .glb (.str [108, 111, 115, 116])] σ).bind retN := rfl
theorem c_tried (n : Nat) (v0 v1 v2 v3 : MV) (σ : List MO) : (rB (n + 1)).call (.fn 16) [v0, v1, v2, v3] σ = ((rB n).ss db_tried [.loc (some v0), .loc (some v1), .loc (some v2), .loc (some v3), .loc none, .loc none, .loc none, .loc none, .loc none, .glb (.bi .len), .glb (.str [108, 111, 115, 116]), .glb (.fn 17), .glb (.bi .list)] σ).bind retN := rfl
theorem c_advanced (n : Nat) (v0 v1 v2 v3 v4 v5 : MV) (σ : List MO) : (rB (n + 1)).call (.fn 17) [v0, v1, v2, v3, v4, v5] σ = ((rB n).ss db_advanced [.loc (some v0), .loc (some v1), .loc (some v2), .loc (some v3), .loc (some v4), .loc (some v5), .loc none, .loc none, .loc none, .loc none, .glb (.fn 18), .glb (.fn 19), .unk, .unk, .unk, .glb (.fn 20)] σ).bind retN := rfl
theorem c_led_in (n : Nat) (v0 v1 v2 v3 v4 : MV) (σ : List MO) : (rB (n + 1)).call (.fn 18) [v0, v1, v2, v3, v4] σ = ((rB n).ss db_led_in [.loc (some v0), .loc (some v1), .loc (some v2), .loc (some v3), .loc (some v4), .loc none] σ).bind retN := rfl
theorem c_led_out (n : Nat) (v0 v1 v2 v3 v4 v5 v6 : MV) (σ : List MO) : (rB (n + 1)).call (.fn 19) [v0, v1, v2, v3, v4, v5, v6] σ = ((rB n).ss db_led_out [.loc (some v0), .loc (some v1), .loc (some v2), .loc (some v3), .loc (some v4), .loc (some v5), .loc (some v6), .loc none, .loc none, .loc none] σ).bind retN := rfl
theorem c_taken (n : Nat) (v0 v1 v2 v3 v4 v5 v6 : MV) (σ : List MO) : (rB (n + 1)).call (.fn 20) [v0, v1, v2, v3, v4, v5, v6] σ = ((rB n).ss db_taken [.loc (some v0), .loc (some v1), .loc (some v2), .loc (some v3), .loc (some v4), .loc (some v5), .loc (some v6), .loc none, .loc none, .loc none, .loc none, .glb (.bi .len), .unk, .glb (.fn 9), .glb (.fn 13)] σ).bind retN := rfl
theorem c_chars_end (n : Nat) (v0 v1 v2 : MV) (σ : List MO) : (rB (n + 1)).call (.fn 10) [v0, v1, v2] σ = ((rB n).ss db_chars_end [.loc (some v0), .loc (some v1), .loc (some v2), .loc none, .glb (.bi .len)] σ).bind retN := rfl
theorem c_notany_at (n : Nat) (v0 v1 v2 : MV) (σ : List MO) : (rB (n + 1)).call (.fn 11) [v0, v1, v2] σ = ((rB n).ss db_notany_at [.loc (some v0), .loc (some v1), .loc (some v2), .glb (.bi .len)] σ).bind retN := rfl
end Mine

open PySem PySem.W PyProof.Rows PySem.Calls
namespace Mine
set_option autoImplicit false
set_option backward.match.sparseCases false
set_option linter.unusedVariables false
set_option linter.unusedSimpArgs false
set_option maxRecDepth 100000
set_option maxHeartbeats 4000000
theorem at?_z {α : Type} (a : α) (l : List α) : at? (a :: l) 0 = some a := rfl
theorem at?_s {α : Type} (a : α) (l : List α) (n : Nat) : at? (a :: l) (n + 1) = at? l n := rfl
theorem setAt_z {α : Type} (v a : α) (l : List α) : setAt v (a :: l) 0 = v :: l := rfl
theorem setAt_s {α : Type} (v a : α) (l : List α) (n : Nat) : setAt v (a :: l) (n + 1) = a :: setAt v l n := rfl
theorem nth0 {α : Type} (l : List α) : nth l 0 = at? l 0 := rfl
theorem nth1 {α : Type} (l : List α) : nth l 1 = at? l 1 := rfl
theorem nth2 {α : Type} (l : List α) : nth l 2 = at? l 2 := rfl
theorem lk0 : lenOk 0 = true := rfl
theorem lk1 : lenOk (0 + 1) = true := rfl
theorem lk2 : lenOk (0 + 1 + 1) = true := rfl
theorem lk3 : lenOk (0 + 1 + 1 + 1) = true := rfl
theorem lk4 : lenOk (0 + 1 + 1 + 1 + 1) = true := rfl
theorem lk5 : lenOk (0 + 1 + 1 + 1 + 1 + 1) = true := rfl
theorem lk6 : lenOk (0 + 1 + 1 + 1 + 1 + 1 + 1) = true := rfl
theorem lk7 : lenOk (0 + 1 + 1 + 1 + 1 + 1 + 1 + 1) = true := rfl
theorem lk8 : lenOk (0 + 1 + 1 + 1 + 1 + 1 + 1 + 1 + 1) = true := rfl
theorem bl0 : Nat.ble 0 20 = true := rfl
theorem bl1 : Nat.ble (0 + 1) 20 = true := rfl
theorem bl2 : Nat.ble (0 + 1 + 1) 20 = true := rfl
theorem bl3 : Nat.ble (0 + 1 + 1 + 1) 20 = true := rfl
theorem wk_str (l : List Nat) : (MV.str l).wk = .str l := rfl
theorem wk_chr (c : Nat) : (MV.chr c).wk = .str [c] := rfl
theorem wk_int (i : Int) : (MV.int i).wk = .int i := rfl
theorem wk_tup (l : List MV) : (MV.tup l).wk = .tup l := rfl
theorem wk_none : MV.none.wk = .none := rfl
theorem wk_ref (i : Nat) : (MV.ref i).wk = .ref i := rfl
theorem wk_bool (b : Bool) : (MV.bool b).wk = .bool b := rfl
theorem wk_wk (v : MV) : v.wk.wk = v.wk := by cases v <;> rfl
theorem bLen_str {σ : List MO} {l : List Nat} (h : lenOk l.length = true) : biCall .len [.str l] σ = some (.int (l.length : Int), σ) := by
  show bLen σ (.str l) = _; unfold bLen; simp only [h, cond_true]
theorem call_bi (n : Nat) (b : Bi) (as : List MV) (σ : List MO) : (rB (n + 1)).call (.bi b) as σ = biCall b as σ := rfl
theorem add_nat (a b : Nat) : (a : Int) + (b : Int) = ((a + b : Nat) : Int) := rfl
theorem part_nat (a : Nat) : part (.int (a : Int)) = some (some a) := rfl
theorem part_none : part .none = some none := rfl
noncomputable def endv (b : Bool) (e : Nat) : MV := cond b (.int (e : Int)) .none
theorem nth_nat {α : Type} {l : List α} {a : Nat} (h : lenOk a = true) : nth l (a : Int) = at? l a := by
  show cond (Nat.ble a 4096) (at? l a) none = _; rw [show Nat.ble a 4096 = true from h]; rfl
theorem lt_nat (a b : Nat) : decide ((a : Int) < (b : Int)) = Nat.blt a b := by
  rw [Bool.eq_iff_iff, decide_eq_true_eq, Nat.blt_eq]; exact Int.ofNat_lt
noncomputable def okv : MV → Bool
  | .chr _ => false
  | .emp => false
  | _ => true
theorem wk_id {v : MV} (h : okv v = true) : v.wk = v := by cases v <;> first | rfl | cases h
theorem endv_ok (b : Bool) (e : Nat) : (endv b e).wk = endv b e := by cases b <;> rfl
theorem isNone_endv (b : Bool) (e : Nat) : isNone (endv b e) = some (!b) := by cases b <;> rfl
theorem e_chars (n : Nat) {s t : List Nat} {a : Nat} {σ : List MO} (hs : lenOk s.length = true) (ht : lenOk t.length = true) :
    (rB (n + 20)).call (.fn 10) [.str s, .int (a : Int), .str t] σ = some (endv (eqL (cut s (some a) (some (a + t.length))) t) (a + t.length), σ) := by
  rw [c_chars_end]
  unfold db_chars_end
  cases hb : eqL (cut s (some a) (some (a + t.length))) t <;>
  simp only [rB_ss, rB_s, rB_e, rB_es, rB_eo, rB_t, rB_ts, rB_a, rB_as, stepSs, fSs, stepS, fS, stepE, fE, stepEs, fEs, stepEo, stepT, fT, stepTs, fTs, stepA, fA, stepAs, ssN, tsN, tsE, getS, Option.bind_some, Option.bind_none, Option.map_some, cond_true, cond_false, retN, Cst.mv, Nat.beq_refl, wk_str, wk_chr, wk_int, wk_tup, wk_none, wk_ref, wk_bool, wk_wk, endv_ok, lk0, lk1, lk2, lk3, lk4, lk5, lk6, lk7, lk8, bl0, bl1, bl2, bl3, List.map_cons, List.map_nil, List.length_cons, List.length_nil, at?_z, at?_s, setAt_z, setAt_s, r0, asgB, isCst, List.all_cons, List.all_nil, List.any_cons, List.any_nil, asTup, putSl, eSub, subs, nth0, nth1, nth2, eCmp, cmpop, cIs, isNone, okAny, notAny, eBin, binop, bAdd, bII, eSlc, part, cutE, eCall, truth, exB, sEx, eMeth, okBase, mApp, Bool.not_true, Bool.not_false, Bool.and_true, Bool.and_false, Bool.true_and, Bool.false_and, Bool.or_true, Bool.or_false, Bool.true_or, Bool.false_or, call_bi, bLen_str ht, add_nat, part_nat, hs, cEq, hb, endv]
noncomputable def notanyB (s : List Nat) (a : Nat) (t : List Nat) : Bool := ((at? s a).map fun c => !memN c t).getD false
theorem e_notany (n : Nat) {s t : List Nat} {a : Nat} {σ : List MO} (hs : lenOk s.length = true) (ha : lenOk a = true) :
    (rB (n + 20)).call (.fn 11) [.str s, .int (a : Int), .str t] σ = some (endv (notanyB s a t) (a + 1), σ) := by
  rw [c_notany_at]
  unfold db_notany_at notanyB
  cases hq : at? s a with
  | none =>
    have : Nat.blt a s.length = false := by
      rw [at?_eq, List.getElem?_eq_none_iff] at hq
      rw [Bool.eq_false_iff]; intro h; have := Nat.blt_eq.mp h; omega
    simp only [rB_ss, rB_s, rB_e, rB_es, rB_eo, rB_t, rB_ts, rB_a, rB_as, stepSs, fSs, stepS, fS, stepE, fE, stepEs, fEs, stepEo, stepT, fT, stepTs, fTs, stepA, fA, stepAs, ssN, tsN, tsE, getS, Option.bind_some, Option.bind_none, Option.map_some, cond_true, cond_false, retN, Cst.mv, Nat.beq_refl, wk_str, wk_chr, wk_int, wk_tup, wk_none, wk_ref, wk_bool, wk_wk, endv_ok, lk0, lk1, lk2, lk3, lk4, lk5, lk6, lk7, lk8, bl0, bl1, bl2, bl3, List.map_cons, List.map_nil, List.length_cons, List.length_nil, at?_z, at?_s, setAt_z, setAt_s, r0, asgB, isCst, List.all_cons, List.all_nil, List.any_cons, List.any_nil, asTup, putSl, eSub, subs, nth0, nth1, nth2, eCmp, cmpop, cIs, isNone, okAny, notAny, eBin, binop, bAdd, bII, eSlc, part, cutE, eCall, truth, exB, sEx, eMeth, okBase, mApp, Bool.not_true, Bool.not_false, Bool.and_true, Bool.and_false, Bool.true_and, Bool.false_and, Bool.or_true, Bool.or_false, Bool.true_or, Bool.false_or, call_bi, bLen_str hs, cInt, lt_nat, this, endv, Option.map_none, Option.getD_none]
  | some c =>
    have : Nat.blt a s.length = true := Nat.blt_eq.mpr (at?_lt hq)
    cases hm : memN c t <;>
    simp only [rB_ss, rB_s, rB_e, rB_es, rB_eo, rB_t, rB_ts, rB_a, rB_as, stepSs, fSs, stepS, fS, stepE, fE, stepEs, fEs, stepEo, stepT, fT, stepTs, fTs, stepA, fA, stepAs, ssN, tsN, tsE, getS, Option.bind_some, Option.bind_none, Option.map_some, cond_true, cond_false, retN, Cst.mv, Nat.beq_refl, wk_str, wk_chr, wk_int, wk_tup, wk_none, wk_ref, wk_bool, wk_wk, endv_ok, lk0, lk1, lk2, lk3, lk4, lk5, lk6, lk7, lk8, bl0, bl1, bl2, bl3, List.map_cons, List.map_nil, List.length_cons, List.length_nil, at?_z, at?_s, setAt_z, setAt_s, r0, asgB, isCst, List.all_cons, List.all_nil, List.any_cons, List.any_nil, asTup, putSl, eSub, subs, nth0, nth1, nth2, eCmp, cmpop, cIs, isNone, okAny, notAny, eBin, binop, bAdd, bII, eSlc, part, cutE, eCall, truth, exB, sEx, eMeth, okBase, mApp, Bool.not_true, Bool.not_false, Bool.and_true, Bool.and_false, Bool.true_and, Bool.false_and, Bool.or_true, Bool.or_false, Bool.true_or, Bool.false_or, call_bi, bLen_str hs, cInt, lt_nat, this, nth_nat ha, hq, cIn, one, hm, endv, Option.map_some, Option.getD_some] <;> first | done | rfl
theorem o_chars (n : Nat) {s t : List Nat} {a : Nat} {σ : List MO} (hs : lenOk s.length = true) (ht : lenOk t.length = true) :
    (rB (n + 45)).call (.fn 12) [.str [99, 104, 97, 114, 115], .str s, .int (a : Int), .str t] σ = some (endv (eqL (cut s (some a) (some (a + t.length))) t) (a + t.length), σ) := by
  rw [c_one_end]
  unfold db_one_end
  simp only [rB_ss, rB_s, rB_e, rB_es, rB_eo, rB_t, rB_ts, rB_a, rB_as, stepSs, fSs, stepS, fS, stepE, fE, stepEs, fEs, stepEo, stepT, fT, stepTs, fTs, stepA, fA, stepAs, ssN, tsN, tsE, getS, Option.bind_some, Option.bind_none, Option.map_some, cond_true, cond_false, retN, Cst.mv, Nat.beq_refl, wk_str, wk_chr, wk_int, wk_tup, wk_none, wk_ref, wk_bool, wk_wk, endv_ok, lk0, lk1, lk2, lk3, lk4, lk5, lk6, lk7, lk8, bl0, bl1, bl2, bl3, List.map_cons, List.map_nil, List.length_cons, List.length_nil, at?_z, at?_s, setAt_z, setAt_s, r0, asgB, isCst, List.all_cons, List.all_nil, List.any_cons, List.any_nil, asTup, putSl, eSub, subs, nth0, nth1, nth2, eCmp, cmpop, cIs, isNone, okAny, notAny, eBin, binop, bAdd, bII, eSlc, part, cutE, eCall, truth, exB, sEx, eMeth, okBase, mApp, Bool.not_true, Bool.not_false, Bool.and_true, Bool.and_false, Bool.true_and, Bool.false_and, Bool.or_true, Bool.or_false, Bool.true_or, Bool.false_or, cEq, (show eqL [99, 104, 97, 114, 115] [99, 104, 97, 114, 115] = true from rfl), e_chars _ hs ht]
theorem p_chars (n : Nat) {s t : List Nat} {a : Nat} {σ : List MO} (hs : lenOk s.length = true) (ht : lenOk t.length = true) :
    (rB (n + 60)).call (.fn 13) [.tup [.str [99, 104, 97, 114, 115], .str t], .str s, .int (a : Int)] σ = some (endv (eqL (cut s (some a) (some (a + t.length))) t) (a + t.length), σ) := by
  rw [c_plain_end]
  unfold db_plain_end
  simp only [rB_ss, rB_s, rB_e, rB_es, rB_eo, rB_t, rB_ts, rB_a, rB_as, stepSs, fSs, stepS, fS, stepE, fE, stepEs, fEs, stepEo, stepT, fT, stepTs, fTs, stepA, fA, stepAs, ssN, tsN, tsE, getS, Option.bind_some, Option.bind_none, Option.map_some, cond_true, cond_false, retN, Cst.mv, Nat.beq_refl, wk_str, wk_chr, wk_int, wk_tup, wk_none, wk_ref, wk_bool, wk_wk, endv_ok, lk0, lk1, lk2, lk3, lk4, lk5, lk6, lk7, lk8, bl0, bl1, bl2, bl3, List.map_cons, List.map_nil, List.length_cons, List.length_nil, at?_z, at?_s, setAt_z, setAt_s, r0, asgB, isCst, List.all_cons, List.all_nil, List.any_cons, List.any_nil, asTup, putSl, eSub, subs, nth0, nth1, nth2, eCmp, cmpop, cIs, isNone, okAny, notAny, eBin, binop, bAdd, bII, eSlc, part, cutE, eCall, truth, exB, sEx, eMeth, okBase, mApp, Bool.not_true, Bool.not_false, Bool.and_true, Bool.and_false, Bool.true_and, Bool.false_and, Bool.or_true, Bool.or_false, Bool.true_or, Bool.false_or, cEq, (show eqL [99, 104, 97, 114, 115] [114, 101, 109] = false from rfl), o_chars _ hs ht]
theorem s_chars (n : Nat) {t : List Nat} {h : MV} {σ : List MO} : (rB (n + 40)).call (.fn 9) [.tup [.str [99, 104, 97, 114, 115], .str t], h] σ = some (.tup [.str [99, 104, 97, 114, 115], .str t], σ) := by rfl
theorem t_chars (n : Nat) {s t : List Nat} {a : Nat} {rest nm pl h : MV} {σ : List MO} (hs : lenOk s.length = true) (ht : lenOk t.length = true) :
    (rB (n + 80)).call (.fn 20) [.tup [.str [99, 104, 97, 114, 115], .str t], rest, .int (a : Int), nm, .str s, pl, h] σ = some (cond (eqL (cut s (some a) (some (a + t.length))) t) (.tup [rest.wk, .int ((a + t.length : Nat) : Int), nm.wk]) .none, σ) := by
  rw [c_taken]
  unfold db_taken
  cases hb : (eqL (cut s (some a) (some (a + t.length))) t) <;>
  simp only [rB_ss, rB_s, rB_e, rB_es, rB_eo, rB_t, rB_ts, rB_a, rB_as, stepSs, fSs, stepS, fS, stepE, fE, stepEs, fEs, stepEo, stepT, fT, stepTs, fTs, stepA, fA, stepAs, ssN, tsN, tsE, getS, Option.bind_some, Option.bind_none, Option.map_some, cond_true, cond_false, retN, Cst.mv, Nat.beq_refl, wk_str, wk_chr, wk_int, wk_tup, wk_none, wk_ref, wk_bool, wk_wk, endv_ok, lk0, lk1, lk2, lk3, lk4, lk5, lk6, lk7, lk8, bl0, bl1, bl2, bl3, List.map_cons, List.map_nil, List.length_cons, List.length_nil, at?_z, at?_s, setAt_z, setAt_s, r0, asgB, isCst, List.all_cons, List.all_nil, List.any_cons, List.any_nil, asTup, putSl, eSub, subs, nth0, nth1, nth2, eCmp, cmpop, cIs, isNone, okAny, notAny, eBin, binop, bAdd, bII, eSlc, part, cutE, eCall, truth, exB, sEx, eMeth, okBase, mApp, Bool.not_true, Bool.not_false, Bool.and_true, Bool.and_false, Bool.true_and, Bool.false_and, Bool.or_true, Bool.or_false, Bool.true_or, Bool.false_or, cEq, (show eqL [99, 104, 97, 114, 115] [97, 114, 98] = false from rfl), (show eqL [99, 104, 97, 114, 115] [98, 97, 108] = false from rfl), s_chars, p_chars _ hs ht, hb, endv, lk3]
theorem a_chars (n : Nat) {s t : List Nat} {a : Nat} {nm : List MV} {rest pl h : MV} {σ : List MO} (hs : lenOk s.length = true) (ht : lenOk t.length = true) :
    (rB (n + 110)).call (.fn 17) [.tup [.tup [.str [99, 104, 97, 114, 115], .str t], rest], .int (a : Int), .tup nm, .str s, pl, h] σ = some (cond (eqL (cut s (some a) (some (a + t.length))) t) (.tup [rest.wk, .int ((a + t.length : Nat) : Int), .tup nm]) .none, σ) := by
  rw [c_advanced]
  unfold db_advanced
  simp only [rB_ss, rB_s, rB_e, rB_es, rB_eo, rB_t, rB_ts, rB_a, rB_as, stepSs, fSs, stepS, fS, stepE, fE, stepEs, fEs, stepEo, stepT, fT, stepTs, fTs, stepA, fA, stepAs, ssN, tsN, tsE, getS, Option.bind_some, Option.bind_none, Option.map_some, cond_true, cond_false, retN, Cst.mv, Nat.beq_refl, wk_str, wk_chr, wk_int, wk_tup, wk_none, wk_ref, wk_bool, wk_wk, endv_ok, lk0, lk1, lk2, lk3, lk4, lk5, lk6, lk7, lk8, bl0, bl1, bl2, bl3, List.map_cons, List.map_nil, List.length_cons, List.length_nil, at?_z, at?_s, setAt_z, setAt_s, r0, asgB, isCst, List.all_cons, List.all_nil, List.any_cons, List.any_nil, asTup, putSl, eSub, subs, nth0, nth1, nth2, eCmp, cmpop, cIs, isNone, okAny, notAny, eBin, binop, bAdd, bII, eSlc, part, cutE, eCall, truth, exB, sEx, eMeth, okBase, mApp, Bool.not_true, Bool.not_false, Bool.and_true, Bool.and_false, Bool.true_and, Bool.false_and, Bool.or_true, Bool.or_false, Bool.true_or, Bool.false_or, cEq, cIn, anyStr, Nat.beq_refl, (show eqL [99, 97, 116] [99, 104, 97, 114, 115] = false from rfl), (show eqL [97, 108, 116] [99, 104, 97, 114, 115] = false from rfl), (show eqL [97, 114, 98, 110, 111] [99, 104, 97, 114, 115] = false from rfl), (show eqL [108, 97, 116, 101, 114] [99, 104, 97, 114, 115] = false from rfl), (show eqL [110, 111, 119] [99, 104, 97, 114, 115] = false from rfl), (show eqL [102, 101, 110, 99, 101] [99, 104, 97, 114, 115] = false from rfl), (show eqL [97, 98, 111, 114, 116] [99, 104, 97, 114, 115] = false from rfl), (show eqL [102, 97, 105, 108] [99, 104, 97, 114, 115] = false from rfl), (show eqL [115, 117, 99, 99, 101, 101, 100] [99, 104, 97, 114, 115] = false from rfl), (show eqL [99, 104, 97, 114, 115] [99, 117, 114, 115, 111, 114] = false from rfl), (show eqL [99, 104, 97, 114, 115] [100, 101, 108, 97, 121] = false from rfl), (show eqL (cut [99, 104, 97, 114, 115] none (some 4)) [101, 110, 100, 32] = false from rfl), t_chars _ hs ht, lk2, lk3]

theorem o_notany (n : Nat) {s t : List Nat} {a : Nat} {σ : List MO} (hs : lenOk s.length = true) (ha : lenOk a = true) :
    (rB (n + 45)).call (.fn 12) [.str [110, 111, 116, 97, 110, 121], .str s, .int (a : Int), .str t] σ = some (endv (notanyB s a t) (a + 1), σ) := by
  rw [c_one_end]
  unfold db_one_end
  simp only [rB_ss, rB_s, rB_e, rB_es, rB_eo, rB_t, rB_ts, rB_a, rB_as, stepSs, fSs, stepS, fS, stepE, fE, stepEs, fEs, stepEo, stepT, fT, stepTs, fTs, stepA, fA, stepAs, ssN, tsN, tsE, getS, Option.bind_some, Option.bind_none, Option.map_some, cond_true, cond_false, retN, Cst.mv, Nat.beq_refl, wk_str, wk_chr, wk_int, wk_tup, wk_none, wk_ref, wk_bool, wk_wk, endv_ok, lk0, lk1, lk2, lk3, lk4, lk5, lk6, lk7, lk8, bl0, bl1, bl2, bl3, List.map_cons, List.map_nil, List.length_cons, List.length_nil, at?_z, at?_s, setAt_z, setAt_s, r0, asgB, isCst, List.all_cons, List.all_nil, List.any_cons, List.any_nil, asTup, putSl, eSub, subs, nth0, nth1, nth2, eCmp, cmpop, cIs, isNone, okAny, notAny, eBin, binop, bAdd, bII, eSlc, part, cutE, eCall, truth, exB, sEx, eMeth, okBase, mApp, Bool.not_true, Bool.not_false, Bool.and_true, Bool.and_false, Bool.true_and, Bool.false_and, Bool.or_true, Bool.or_false, Bool.true_or, Bool.false_or, cEq, (show eqL [110, 111, 116, 97, 110, 121] [99, 104, 97, 114, 115] = false from rfl), (show eqL [110, 111, 116, 97, 110, 121] [108, 101, 110] = false from rfl), (show eqL [110, 111, 116, 97, 110, 121] [112, 111, 115] = false from rfl), (show eqL [110, 111, 116, 97, 110, 121] [114, 112, 111, 115] = false from rfl), (show eqL [110, 111, 116, 97, 110, 121] [116, 97, 98] = false from rfl), (show eqL [110, 111, 116, 97, 110, 121] [114, 116, 97, 98] = false from rfl), (show eqL [110, 111, 116, 97, 110, 121] [97, 110, 121] = false from rfl), (show eqL [110, 111, 116, 97, 110, 121] [110, 111, 116, 97, 110, 121] = true from rfl), e_notany _ hs ha]
theorem p_notany (n : Nat) {s t : List Nat} {a : Nat} {σ : List MO} (hs : lenOk s.length = true) (ha : lenOk a = true) :
    (rB (n + 60)).call (.fn 13) [.tup [.str [110, 111, 116, 97, 110, 121], .str t], .str s, .int (a : Int)] σ = some (endv (notanyB s a t) (a + 1), σ) := by
  rw [c_plain_end]
  unfold db_plain_end
  simp only [rB_ss, rB_s, rB_e, rB_es, rB_eo, rB_t, rB_ts, rB_a, rB_as, stepSs, fSs, stepS, fS, stepE, fE, stepEs, fEs, stepEo, stepT, fT, stepTs, fTs, stepA, fA, stepAs, ssN, tsN, tsE, getS, Option.bind_some, Option.bind_none, Option.map_some, cond_true, cond_false, retN, Cst.mv, Nat.beq_refl, wk_str, wk_chr, wk_int, wk_tup, wk_none, wk_ref, wk_bool, wk_wk, endv_ok, lk0, lk1, lk2, lk3, lk4, lk5, lk6, lk7, lk8, bl0, bl1, bl2, bl3, List.map_cons, List.map_nil, List.length_cons, List.length_nil, at?_z, at?_s, setAt_z, setAt_s, r0, asgB, isCst, List.all_cons, List.all_nil, List.any_cons, List.any_nil, asTup, putSl, eSub, subs, nth0, nth1, nth2, eCmp, cmpop, cIs, isNone, okAny, notAny, eBin, binop, bAdd, bII, eSlc, part, cutE, eCall, truth, exB, sEx, eMeth, okBase, mApp, Bool.not_true, Bool.not_false, Bool.and_true, Bool.and_false, Bool.true_and, Bool.false_and, Bool.or_true, Bool.or_false, Bool.true_or, Bool.false_or, cEq, (show eqL [110, 111, 116, 97, 110, 121] [114, 101, 109] = false from rfl), o_notany _ hs ha]
theorem s_notany (n : Nat) {t : List Nat} {h : MV} {σ : List MO} : (rB (n + 40)).call (.fn 9) [.tup [.str [110, 111, 116, 97, 110, 121], .str t], h] σ = some (.tup [.str [110, 111, 116, 97, 110, 121], .str t], σ) := by rfl
theorem t_notany (n : Nat) {s t : List Nat} {a : Nat} {rest nm pl h : MV} {σ : List MO} (hs : lenOk s.length = true) (ha : lenOk a = true) :
    (rB (n + 80)).call (.fn 20) [.tup [.str [110, 111, 116, 97, 110, 121], .str t], rest, .int (a : Int), nm, .str s, pl, h] σ = some (cond (notanyB s a t) (.tup [rest.wk, .int ((a + 1 : Nat) : Int), nm.wk]) .none, σ) := by
  rw [c_taken]
  unfold db_taken
  cases hb : (notanyB s a t) <;>
  simp only [rB_ss, rB_s, rB_e, rB_es, rB_eo, rB_t, rB_ts, rB_a, rB_as, stepSs, fSs, stepS, fS, stepE, fE, stepEs, fEs, stepEo, stepT, fT, stepTs, fTs, stepA, fA, stepAs, ssN, tsN, tsE, getS, Option.bind_some, Option.bind_none, Option.map_some, cond_true, cond_false, retN, Cst.mv, Nat.beq_refl, wk_str, wk_chr, wk_int, wk_tup, wk_none, wk_ref, wk_bool, wk_wk, endv_ok, lk0, lk1, lk2, lk3, lk4, lk5, lk6, lk7, lk8, bl0, bl1, bl2, bl3, List.map_cons, List.map_nil, List.length_cons, List.length_nil, at?_z, at?_s, setAt_z, setAt_s, r0, asgB, isCst, List.all_cons, List.all_nil, List.any_cons, List.any_nil, asTup, putSl, eSub, subs, nth0, nth1, nth2, eCmp, cmpop, cIs, isNone, okAny, notAny, eBin, binop, bAdd, bII, eSlc, part, cutE, eCall, truth, exB, sEx, eMeth, okBase, mApp, Bool.not_true, Bool.not_false, Bool.and_true, Bool.and_false, Bool.true_and, Bool.false_and, Bool.or_true, Bool.or_false, Bool.true_or, Bool.false_or, cEq, (show eqL [110, 111, 116, 97, 110, 121] [97, 114, 98] = false from rfl), (show eqL [110, 111, 116, 97, 110, 121] [98, 97, 108] = false from rfl), s_notany, p_notany _ hs ha, hb, endv, lk3]
theorem a_notany (n : Nat) {s t : List Nat} {a : Nat} {nm : List MV} {rest pl h : MV} {σ : List MO} (hs : lenOk s.length = true) (ha : lenOk a = true) :
    (rB (n + 110)).call (.fn 17) [.tup [.tup [.str [110, 111, 116, 97, 110, 121], .str t], rest], .int (a : Int), .tup nm, .str s, pl, h] σ = some (cond (notanyB s a t) (.tup [rest.wk, .int ((a + 1 : Nat) : Int), .tup nm]) .none, σ) := by
  rw [c_advanced]
  unfold db_advanced
  simp only [rB_ss, rB_s, rB_e, rB_es, rB_eo, rB_t, rB_ts, rB_a, rB_as, stepSs, fSs, stepS, fS, stepE, fE, stepEs, fEs, stepEo, stepT, fT, stepTs, fTs, stepA, fA, stepAs, ssN, tsN, tsE, getS, Option.bind_some, Option.bind_none, Option.map_some, cond_true, cond_false, retN, Cst.mv, Nat.beq_refl, wk_str, wk_chr, wk_int, wk_tup, wk_none, wk_ref, wk_bool, wk_wk, endv_ok, lk0, lk1, lk2, lk3, lk4, lk5, lk6, lk7, lk8, bl0, bl1, bl2, bl3, List.map_cons, List.map_nil, List.length_cons, List.length_nil, at?_z, at?_s, setAt_z, setAt_s, r0, asgB, isCst, List.all_cons, List.all_nil, List.any_cons, List.any_nil, asTup, putSl, eSub, subs, nth0, nth1, nth2, eCmp, cmpop, cIs, isNone, okAny, notAny, eBin, binop, bAdd, bII, eSlc, part, cutE, eCall, truth, exB, sEx, eMeth, okBase, mApp, Bool.not_true, Bool.not_false, Bool.and_true, Bool.and_false, Bool.true_and, Bool.false_and, Bool.or_true, Bool.or_false, Bool.true_or, Bool.false_or, cEq, cIn, anyStr, Nat.beq_refl, (show eqL [99, 97, 116] [110, 111, 116, 97, 110, 121] = false from rfl), (show eqL [97, 108, 116] [110, 111, 116, 97, 110, 121] = false from rfl), (show eqL [97, 114, 98, 110, 111] [110, 111, 116, 97, 110, 121] = false from rfl), (show eqL [108, 97, 116, 101, 114] [110, 111, 116, 97, 110, 121] = false from rfl), (show eqL [110, 111, 119] [110, 111, 116, 97, 110, 121] = false from rfl), (show eqL [102, 101, 110, 99, 101] [110, 111, 116, 97, 110, 121] = false from rfl), (show eqL [97, 98, 111, 114, 116] [110, 111, 116, 97, 110, 121] = false from rfl), (show eqL [102, 97, 105, 108] [110, 111, 116, 97, 110, 121] = false from rfl), (show eqL [115, 117, 99, 99, 101, 101, 100] [110, 111, 116, 97, 110, 121] = false from rfl), (show eqL [110, 111, 116, 97, 110, 121] [99, 117, 114, 115, 111, 114] = false from rfl), (show eqL [110, 111, 116, 97, 110, 121] [100, 101, 108, 97, 121] = false from rfl), (show eqL (cut [110, 111, 116, 97, 110, 121] none (some 4)) [101, 110, 100, 32] = false from rfl), t_notany _ hs ha, lk2, lk3]

theorem l_cat (n : Nat) (x y rest pl : MV) (nm : List MV) (a : Int) (σ : List MO) : (rB (n + 60)).call (.fn 18) [.tup [.str [99, 97, 116], x, y], rest, .int a, .tup nm, pl] σ = some (.tup [.tup [x.wk, .tup [y.wk, rest.wk]], .int a, .tup nm], σ) := by rfl
theorem l_now (n : Nat) (x y rest pl : MV) (nm : List MV) (a : Int) (σ : List MO) : (rB (n + 60)).call (.fn 18) [.tup [.str [110, 111, 119], x, y], rest, .int a, .tup nm, pl] σ = some (.tup [.tup [x.wk, .tup [.tup [.str [101, 110, 100, 32, 110, 111, 119], y.wk, .int a], rest.wk]], .int a, .tup nm], σ) := by rfl
theorem a_cat (n : Nat) (x y rest sb pl h : MV) (nm : List MV) (a : Int) (σ : List MO) : (rB (n + 110)).call (.fn 17) [.tup [.tup [.str [99, 97, 116], x, y], rest], .int a, .tup nm, sb, pl, h] σ = some (.tup [.tup [x.wk, .tup [y.wk, rest.wk]], .int a, .tup nm], σ) := by
  rw [c_advanced]
  unfold db_advanced
  simp only [rB_ss, rB_s, rB_e, rB_es, rB_eo, rB_t, rB_ts, rB_a, rB_as, stepSs, fSs, stepS, fS, stepE, fE, stepEs, fEs, stepEo, stepT, fT, stepTs, fTs, stepA, fA, stepAs, ssN, tsN, tsE, getS, Option.bind_some, Option.bind_none, Option.map_some, cond_true, cond_false, retN, Cst.mv, Nat.beq_refl, wk_str, wk_chr, wk_int, wk_tup, wk_none, wk_ref, wk_bool, wk_wk, endv_ok, lk0, lk1, lk2, lk3, lk4, lk5, lk6, lk7, lk8, bl0, bl1, bl2, bl3, List.map_cons, List.map_nil, List.length_cons, List.length_nil, at?_z, at?_s, setAt_z, setAt_s, r0, asgB, isCst, List.all_cons, List.all_nil, List.any_cons, List.any_nil, asTup, putSl, eSub, subs, nth0, nth1, nth2, eCmp, cmpop, cIs, isNone, okAny, notAny, eBin, binop, bAdd, bII, eSlc, part, cutE, eCall, truth, exB, sEx, eMeth, okBase, mApp, Bool.not_true, Bool.not_false, Bool.and_true, Bool.and_false, Bool.true_and, Bool.false_and, Bool.or_true, Bool.or_false, Bool.true_or, Bool.false_or, cIn, (show anyStr [99, 97, 116] [.str [99, 97, 116], .str [97, 108, 116], .str [97, 114, 98, 110, 111], .str [108, 97, 116, 101, 114], .str [110, 111, 119]] = some true from rfl), l_cat]
theorem a_now (n : Nat) (x y rest sb pl h : MV) (nm : List MV) (a : Int) (σ : List MO) : (rB (n + 110)).call (.fn 17) [.tup [.tup [.str [110, 111, 119], x, y], rest], .int a, .tup nm, sb, pl, h] σ = some (.tup [.tup [x.wk, .tup [.tup [.str [101, 110, 100, 32, 110, 111, 119], y.wk, .int a], rest.wk]], .int a, .tup nm], σ) := by
  rw [c_advanced]
  unfold db_advanced
  simp only [rB_ss, rB_s, rB_e, rB_es, rB_eo, rB_t, rB_ts, rB_a, rB_as, stepSs, fSs, stepS, fS, stepE, fE, stepEs, fEs, stepEo, stepT, fT, stepTs, fTs, stepA, fA, stepAs, ssN, tsN, tsE, getS, Option.bind_some, Option.bind_none, Option.map_some, cond_true, cond_false, retN, Cst.mv, Nat.beq_refl, wk_str, wk_chr, wk_int, wk_tup, wk_none, wk_ref, wk_bool, wk_wk, endv_ok, lk0, lk1, lk2, lk3, lk4, lk5, lk6, lk7, lk8, bl0, bl1, bl2, bl3, List.map_cons, List.map_nil, List.length_cons, List.length_nil, at?_z, at?_s, setAt_z, setAt_s, r0, asgB, isCst, List.all_cons, List.all_nil, List.any_cons, List.any_nil, asTup, putSl, eSub, subs, nth0, nth1, nth2, eCmp, cmpop, cIs, isNone, okAny, notAny, eBin, binop, bAdd, bII, eSlc, part, cutE, eCall, truth, exB, sEx, eMeth, okBase, mApp, Bool.not_true, Bool.not_false, Bool.and_true, Bool.and_false, Bool.true_and, Bool.false_and, Bool.or_true, Bool.or_false, Bool.true_or, Bool.false_or, cIn, (show anyStr [110, 111, 119] [.str [99, 97, 116], .str [97, 108, 116], .str [97, 114, 98, 110, 111], .str [108, 97, 116, 101, 114], .str [110, 111, 119]] = some true from rfl), l_now]
theorem sel_list {σ : List MO} {i : Nat} {xs : List MV} (h : at? σ i = some (.list xs)) : mSel dCT σ 10 (.ref i) = some .list := by
  show selR dCT 10 (at? σ i) = _; rw [h]; rfl
theorem ap_list {σ : List MO} {i : Nat} {xs : List MV} {v : MV} (h : at? σ i = some (.list xs)) (hl : lenOk xs.length = true) : apLv σ 10 [v] (.ref i) = some (.none, setAt (.list (xs ++ [v])) σ i) := by
  show apL σ i 10 [v] (at? σ i) = _; rw [h]; show cond (lenOk xs.length) _ _ = _; rw [hl]; rfl
theorem l_alt (n : Nat) {x y rest : MV} {nm : List MV} {a : Int} {p : Nat} {xs : List MV} {σ : List MO} (hp : at? σ p = some (.list xs)) (hl : lenOk xs.length = true) :
    (rB (n + 60)).call (.fn 18) [.tup [.str [97, 108, 116], x, y], rest, .int a, .tup nm, .ref p] σ = some (.tup [.tup [x.wk, rest.wk], .int a, .tup nm], setAt (.list (xs ++ [.tup [.tup [y.wk, rest.wk], .int a, .tup nm]])) σ p) := by
  rw [c_led_in]
  unfold db_led_in
  simp only [rB_ss, rB_s, rB_e, rB_es, rB_eo, rB_t, rB_ts, rB_a, rB_as, stepSs, fSs, stepS, fS, stepE, fE, stepEs, fEs, stepEo, stepT, fT, stepTs, fTs, stepA, fA, stepAs, ssN, tsN, tsE, getS, Option.bind_some, Option.bind_none, Option.map_some, cond_true, cond_false, retN, Cst.mv, Nat.beq_refl, wk_str, wk_chr, wk_int, wk_tup, wk_none, wk_ref, wk_bool, wk_wk, endv_ok, lk0, lk1, lk2, lk3, lk4, lk5, lk6, lk7, lk8, bl0, bl1, bl2, bl3, List.map_cons, List.map_nil, List.length_cons, List.length_nil, at?_z, at?_s, setAt_z, setAt_s, r0, asgB, isCst, List.all_cons, List.all_nil, List.any_cons, List.any_nil, asTup, putSl, eSub, subs, nth0, nth1, nth2, eCmp, cmpop, cIs, isNone, okAny, notAny, eBin, binop, bAdd, bII, eSlc, part, cutE, eCall, truth, exB, sEx, eMeth, okBase, mApp, Bool.not_true, Bool.not_false, Bool.and_true, Bool.and_false, Bool.true_and, Bool.false_and, Bool.or_true, Bool.or_false, Bool.true_or, Bool.false_or, cEq, (show eqL [97, 108, 116] [99, 97, 116] = false from rfl), (show eqL [97, 108, 116] [97, 108, 116] = true from rfl), sel_list hp, ap_list hp hl]
theorem a_alt (n : Nat) {x y rest sb h : MV} {nm : List MV} {a : Int} {p : Nat} {xs : List MV} {σ : List MO} (hp : at? σ p = some (.list xs)) (hl : lenOk xs.length = true) :
    (rB (n + 110)).call (.fn 17) [.tup [.tup [.str [97, 108, 116], x, y], rest], .int a, .tup nm, sb, .ref p, h] σ = some (.tup [.tup [x.wk, rest.wk], .int a, .tup nm], setAt (.list (xs ++ [.tup [.tup [y.wk, rest.wk], .int a, .tup nm]])) σ p) := by
  rw [c_advanced]
  unfold db_advanced
  simp only [rB_ss, rB_s, rB_e, rB_es, rB_eo, rB_t, rB_ts, rB_a, rB_as, stepSs, fSs, stepS, fS, stepE, fE, stepEs, fEs, stepEo, stepT, fT, stepTs, fTs, stepA, fA, stepAs, ssN, tsN, tsE, getS, Option.bind_some, Option.bind_none, Option.map_some, cond_true, cond_false, retN, Cst.mv, Nat.beq_refl, wk_str, wk_chr, wk_int, wk_tup, wk_none, wk_ref, wk_bool, wk_wk, endv_ok, lk0, lk1, lk2, lk3, lk4, lk5, lk6, lk7, lk8, bl0, bl1, bl2, bl3, List.map_cons, List.map_nil, List.length_cons, List.length_nil, at?_z, at?_s, setAt_z, setAt_s, r0, asgB, isCst, List.all_cons, List.all_nil, List.any_cons, List.any_nil, asTup, putSl, eSub, subs, nth0, nth1, nth2, eCmp, cmpop, cIs, isNone, okAny, notAny, eBin, binop, bAdd, bII, eSlc, part, cutE, eCall, truth, exB, sEx, eMeth, okBase, mApp, Bool.not_true, Bool.not_false, Bool.and_true, Bool.and_false, Bool.true_and, Bool.false_and, Bool.or_true, Bool.or_false, Bool.true_or, Bool.false_or, cIn, (show anyStr [97, 108, 116] [.str [99, 97, 116], .str [97, 108, 116], .str [97, 114, 98, 110, 111], .str [108, 97, 116, 101, 114], .str [110, 111, 119]] = some true from rfl), l_alt _ hp hl]
theorem at_inst {σ : List MO} {i k a : Nat} {ats : List (Nat × MV)} {v : MV} (h : at? σ i = some (.inst k ats)) (hl : lkN a ats = some v) (hv : notAny v = true) (hb : Nat.ble a 19 = true) (hn : notMeth dCT k a = true) : attrE dCT σ a (.ref i) = some (v, σ) := by
  show attrB dCT σ a (at? σ i) = _
  rw [h]
  show cond (Nat.ble a 19) (match lkN a ats with | some v => cond (notMeth dCT k a) ((okAny v).bind fun v => some (v, σ)) none | none => (at? dCT k).bind (bndK σ a)) none = _
  rw [hb, hl]; simp only [hn, cond_true, okAny, hv, Option.bind_some]

theorem sel_own {σ : List MO} {h k a f : Nat} {ats : List (Nat × MV)} {c : Cl} (hh : at? σ h = some (.inst k ats)) (h1 : lkN a ats = none) (h2 : Nat.ble a 19 = true) (h3 : at? dCT k = some c) (h4 : lkN a c.meths = some f) (h5 : (Nat.beq a 10 || Nat.beq a 11) = false) : mSel dCT σ a (.ref h) = some (.own f) := by
  show selR dCT a (at? σ h) = _
  rw [hh]
  show cond (Nat.ble a 19) (selI dCT k a (lkN a ats)) none = _
  rw [h1, h2]
  show (at? dCT k).bind (selC a) = _
  rw [h3]
  show (lkN a c.meths).bind _ = _
  rw [h4]; rfl
noncomputable def nameM (k o : MV) (key : List Nat) : MO := .inst 0 [(6, k), (7, o), (8, .str key)]
theorem L_step (n : Nat) {h d rf lg : Nat} {lim st : Int} {σ : List MO} (hh : at? σ h = some (hostM d rf lg lim st)) (hl : ¬ lim < st + 1) :
    (rB (n + 20)).call (.fn 7) [.ref h] σ = some (.none, setAt (hostM d rf lg lim (st + 1)) σ h) := by
  rw [c_PlainHost_step]
  have hA : attrE dCT σ 4 (.ref h) = some (.int st, σ) := at_inst hh rfl rfl rfl rfl
  have hP : putA dCT 4 (.int (st + 1)) σ (.ref h) = some (setAt (hostM d rf lg lim (st + 1)) σ h) := by
    show putAt dCT h 4 _ σ (at? σ h) = _; rw [hh]; rfl
  have h2 : at? (setAt (hostM d rf lg lim (st + 1)) σ h) h = some (hostM d rf lg lim (st + 1)) := at?_set hh
  have hB : attrE dCT (setAt (hostM d rf lg lim (st + 1)) σ h) 4 (.ref h) = some (.int (st + 1), setAt (hostM d rf lg lim (st + 1)) σ h) := at_inst h2 rfl rfl rfl rfl
  have hC : attrE dCT (setAt (hostM d rf lg lim (st + 1)) σ h) 1 (.ref h) = some (.int lim, setAt (hostM d rf lg lim (st + 1)) σ h) := at_inst h2 rfl rfl rfl rfl
  unfold db_PlainHost_step
  simp only [rB_ss, rB_s, rB_e, rB_es, rB_eo, rB_t, rB_ts, rB_a, rB_as, stepSs, fSs, stepS, fS, stepE, fE, stepEs, fEs, stepEo, stepT, fT, stepTs, fTs, stepA, fA, stepAs, ssN, tsN, tsE, getS, Option.bind_some, Option.bind_none, Option.map_some, cond_true, cond_false, retN, Cst.mv, Nat.beq_refl, wk_str, wk_chr, wk_int, wk_tup, wk_none, wk_ref, wk_bool, wk_wk, endv_ok, lk0, lk1, lk2, lk3, lk4, lk5, lk6, lk7, lk8, bl0, bl1, bl2, bl3, List.map_cons, List.map_nil, List.length_cons, List.length_nil, at?_z, at?_s, setAt_z, setAt_s, r0, asgB, isCst, List.all_cons, List.all_nil, List.any_cons, List.any_nil, asTup, putSl, eSub, subs, nth0, nth1, nth2, eCmp, cmpop, cIs, isNone, okAny, notAny, eBin, binop, bAdd, bII, eSlc, part, cutE, eCall, truth, exB, sEx, eMeth, okBase, mApp, Bool.not_true, Bool.not_false, Bool.and_true, Bool.and_false, Bool.true_and, Bool.false_and, Bool.or_true, Bool.or_false, Bool.true_or, Bool.false_or, sAugA, iop, hA, hB, hC, hP, cInt, hl, decide_false]
theorem L_assign (n : Nat) {h d rf lg nr : Nat} {lim st : Int} {kk oo v : MV} {key : List Nat} {kv : List (List Nat × MV)} {lo : List MV} {σ : List MO} (hh : at? σ h = some (hostM d rf lg lim st)) (hn : at? σ nr = some (nameM kk oo key)) (hr : at? σ rf = some (.list []))
    (hd : at? σ d = some (.dict kv)) (hl : at? σ lg = some (.list lo)) (dl : d ≠ lg) (hd' : h ≠ d) (nd : nr ≠ d) (k1 : lenOk kv.length = true) (k2 : lenOk lo.length = true) :
    (rB (n + 30)).call (.fn 6) [.ref h, .ref nr, v] σ = some (.bool true, setAt (.list (lo ++ [.tup [.str key, v.wk]])) (setAt (.dict (putS key v.wk kv)) σ d) lg) := by
  rw [c_PlainHost_assign]
  have aK : attrE dCT σ 8 (.ref nr) = some (.str key, σ) := at_inst hn rfl rfl rfl rfl
  have aR : attrE dCT σ 2 (.ref h) = some (.ref rf, σ) := at_inst hh rfl rfl rfl rfl
  have aV : attrE dCT σ 0 (.ref h) = some (.ref d, σ) := at_inst hh rfl rfl rfl rfl
  have hP : putI v.wk σ (.str key) (.ref d) = some (setAt (.dict (putS key v.wk kv)) σ d) := by
    show putIt d v.wk σ (.str key) (at? σ d) = _; rw [hd]; show cond (lenOk kv.length) _ _ = _; rw [k1]; rfl
  have aL : attrE dCT (setAt (.dict (putS key v.wk kv)) σ d) 5 (.ref h) = some (.ref lg, setAt (.dict (putS key v.wk kv)) σ d) := at_inst (by rw [at?_ne hd'.symm]; exact hh) rfl rfl rfl rfl
  have aK2 : attrE dCT (setAt (.dict (putS key v.wk kv)) σ d) 8 (.ref nr) = some (.str key, setAt (.dict (putS key v.wk kv)) σ d) := at_inst (by rw [at?_ne nd.symm]; exact hn) rfl rfl rfl rfl
  have hl2 : at? (setAt (.dict (putS key v.wk kv)) σ d) lg = some (.list lo) := by rw [at?_ne dl]; exact hl
  have cI : cIn σ (.str key) (.ref rf) = some false := by show cInR key (at? σ rf) = _; rw [hr]; rfl
  unfold db_PlainHost_assign
  simp only [rB_ss, rB_s, rB_e, rB_es, rB_eo, rB_t, rB_ts, rB_a, rB_as, stepSs, fSs, stepS, fS, stepE, fE, stepEs, fEs, stepEo, stepT, fT, stepTs, fTs, stepA, fA, stepAs, ssN, tsN, tsE, getS, Option.bind_some, Option.bind_none, Option.map_some, cond_true, cond_false, retN, Cst.mv, Nat.beq_refl, wk_str, wk_chr, wk_int, wk_tup, wk_none, wk_ref, wk_bool, wk_wk, endv_ok, lk0, lk1, lk2, lk3, lk4, lk5, lk6, lk7, lk8, bl0, bl1, bl2, bl3, List.map_cons, List.map_nil, List.length_cons, List.length_nil, at?_z, at?_s, setAt_z, setAt_s, r0, asgB, isCst, List.all_cons, List.all_nil, List.any_cons, List.any_nil, asTup, putSl, eSub, subs, nth0, nth1, nth2, eCmp, cmpop, cIs, isNone, okAny, notAny, eBin, binop, bAdd, bII, eSlc, part, cutE, eCall, truth, exB, sEx, eMeth, okBase, mApp, Bool.not_true, Bool.not_false, Bool.and_true, Bool.and_false, Bool.true_and, Bool.false_and, Bool.or_true, Bool.or_false, Bool.true_or, Bool.false_or, aK, aR, aV, aL, aK2, cI, hP, sel_list hl2, ap_list hl2 k2]

theorem l_endnow (n : Nat) {h d rf lg nr a b : Nat} {lim st : Int} {kk oo rest pl : MV} {nm : List MV} {s key : List Nat} {kv : List (List Nat × MV)} {lo : List MV} {σ : List MO} (hh : at? σ h = some (hostM d rf lg lim st)) (hn : at? σ nr = some (nameM kk oo key)) (hr : at? σ rf = some (.list []))
    (hd : at? σ d = some (.dict kv)) (hl : at? σ lg = some (.list lo)) (dl : d ≠ lg) (hd' : h ≠ d) (nd : nr ≠ d) (k1 : lenOk kv.length = true) (k2 : lenOk lo.length = true) (hs : lenOk s.length = true) :
    (rB (n + 60)).call (.fn 19) [.tup [.str [101, 110, 100, 32, 110, 111, 119], .ref nr, .int (b : Int)], rest, .int (a : Int), .tup nm, .str s, pl, .ref h] σ = some (.tup [rest.wk, .int (a : Int), .tup nm], setAt (.list (lo ++ [.tup [.str key, .str (cut s (some b) (some a))]])) (setAt (.dict (putS key (.str (cut s (some b) (some a))) kv)) σ d) lg) := by
  rw [c_led_out]
  unfold db_led_out
  have so : mSel dCT σ 18 (.ref h) = some (.own 6) := sel_own hh rfl rfl rfl rfl rfl
  have la := fun n => L_assign n (v := .str (cut s (some b) (some a))) hh hn hr hd hl dl hd' nd k1 k2
  simp only [wk_str] at la
  simp only [rB_ss, rB_s, rB_e, rB_es, rB_eo, rB_t, rB_ts, rB_a, rB_as, stepSs, fSs, stepS, fS, stepE, fE, stepEs, fEs, stepEo, stepT, fT, stepTs, fTs, stepA, fA, stepAs, ssN, tsN, tsE, getS, Option.bind_some, Option.bind_none, Option.map_some, cond_true, cond_false, retN, Cst.mv, Nat.beq_refl, wk_str, wk_chr, wk_int, wk_tup, wk_none, wk_ref, wk_bool, wk_wk, endv_ok, lk0, lk1, lk2, lk3, lk4, lk5, lk6, lk7, lk8, bl0, bl1, bl2, bl3, List.map_cons, List.map_nil, List.length_cons, List.length_nil, at?_z, at?_s, setAt_z, setAt_s, r0, asgB, isCst, List.all_cons, List.all_nil, List.any_cons, List.any_nil, asTup, putSl, eSub, subs, nth0, nth1, nth2, eCmp, cmpop, cIs, isNone, okAny, notAny, eBin, binop, bAdd, bII, eSlc, part, cutE, eCall, truth, exB, sEx, eMeth, okBase, mApp, Bool.not_true, Bool.not_false, Bool.and_true, Bool.and_false, Bool.true_and, Bool.false_and, Bool.or_true, Bool.or_false, Bool.true_or, Bool.false_or, cEq, (show eqL [101, 110, 100, 32, 110, 111, 119] [101, 110, 100, 32, 108, 97, 116, 101, 114] = false from rfl), (show eqL [101, 110, 100, 32, 110, 111, 119] [101, 110, 100, 32, 110, 111, 119] = true from rfl), so, part_nat, hs, la]
theorem a_endnow (n : Nat) {h d rf lg nr a b : Nat} {lim st : Int} {kk oo rest pl : MV} {nm : List MV} {s key : List Nat} {kv : List (List Nat × MV)} {lo : List MV} {σ : List MO} (hh : at? σ h = some (hostM d rf lg lim st)) (hn : at? σ nr = some (nameM kk oo key)) (hr : at? σ rf = some (.list []))
    (hd : at? σ d = some (.dict kv)) (hl : at? σ lg = some (.list lo)) (dl : d ≠ lg) (hd' : h ≠ d) (nd : nr ≠ d) (k1 : lenOk kv.length = true) (k2 : lenOk lo.length = true) (hs : lenOk s.length = true) :
    (rB (n + 110)).call (.fn 17) [.tup [.tup [.str [101, 110, 100, 32, 110, 111, 119], .ref nr, .int (b : Int)], rest], .int (a : Int), .tup nm, .str s, pl, .ref h] σ = some (.tup [rest.wk, .int (a : Int), .tup nm], setAt (.list (lo ++ [.tup [.str key, .str (cut s (some b) (some a))]])) (setAt (.dict (putS key (.str (cut s (some b) (some a))) kv)) σ d) lg) := by
  rw [c_advanced]
  unfold db_advanced
  have lo := fun n rest pl => l_endnow n (a := a) (b := b) (rest := rest) (pl := pl) (nm := nm) hh hn hr hd hl dl hd' nd k1 k2 hs
  simp only [rB_ss, rB_s, rB_e, rB_es, rB_eo, rB_t, rB_ts, rB_a, rB_as, stepSs, fSs, stepS, fS, stepE, fE, stepEs, fEs, stepEo, stepT, fT, stepTs, fTs, stepA, fA, stepAs, ssN, tsN, tsE, getS, Option.bind_some, Option.bind_none, Option.map_some, cond_true, cond_false, retN, Cst.mv, Nat.beq_refl, wk_str, wk_chr, wk_int, wk_tup, wk_none, wk_ref, wk_bool, wk_wk, endv_ok, lk0, lk1, lk2, lk3, lk4, lk5, lk6, lk7, lk8, bl0, bl1, bl2, bl3, List.map_cons, List.map_nil, List.length_cons, List.length_nil, at?_z, at?_s, setAt_z, setAt_s, r0, asgB, isCst, List.all_cons, List.all_nil, List.any_cons, List.any_nil, asTup, putSl, eSub, subs, nth0, nth1, nth2, eCmp, cmpop, cIs, isNone, okAny, notAny, eBin, binop, bAdd, bII, eSlc, part, cutE, eCall, truth, exB, sEx, eMeth, okBase, mApp, Bool.not_true, Bool.not_false, Bool.and_true, Bool.and_false, Bool.true_and, Bool.false_and, Bool.or_true, Bool.or_false, Bool.true_or, Bool.false_or, cIn, cEq, (show anyStr [101, 110, 100, 32, 110, 111, 119] [.str [99, 97, 116], .str [97, 108, 116], .str [97, 114, 98, 110, 111], .str [108, 97, 116, 101, 114], .str [110, 111, 119]] = some false from rfl), (show eqL (cut [101, 110, 100, 32, 110, 111, 119] none (some 4)) [101, 110, 100, 32] = true from rfl), lo]

end Mine

open PySem PySem.W PyProof.Rows PySem.Calls
namespace Mine
set_option autoImplicit false
set_option backward.match.sparseCases false
set_option linter.unusedVariables false
set_option linter.unusedSimpArgs false
set_option maxRecDepth 100000
set_option maxHeartbeats 4000000
/-! ## the machine -/
inductive Nd where
  | cat (x y : MV)
  | alt (x y : MV)
  | now (x y : MV)
  | en (nr b : Nat)
  | chars (t : List Nat)
  | notany (t : List Nat)
noncomputable def Nd.er : Nd → MV
  | .cat x y => .tup [.str [99, 97, 116], x, y]
  | .alt x y => .tup [.str [97, 108, 116], x, y]
  | .now x y => .tup [.str [110, 111, 119], x, y]
  | .en nr b => .tup [.str [101, 110, 100, 32, 110, 111, 119], .ref nr, .int (b : Int)]
  | .chars t => .tup [.str [99, 104, 97, 114, 115], .str t]
  | .notany t => .tup [.str [110, 111, 116, 97, 110, 121], .str t]
noncomputable def strM : MV → Option (List Nat)
  | .str l => some l
  | _ => none
noncomputable def refM : MV → Option Nat
  | .ref l => some l
  | _ => none
noncomputable def tupM : MV → Option (List MV)
  | .tup l => some l
  | _ => none
noncomputable def natI : Int → Option Nat
  | .ofNat n => some n
  | .negSucc _ => none
noncomputable def natM : MV → Option Nat
  | .int i => natI i
  | _ => none
theorem strM_ok {v : MV} {l : List Nat} (h : strM v = some l) : v = .str l := by cases v <;> first | (cases h; done) | (cases h; rfl)
theorem refM_ok {v : MV} {l : Nat} (h : refM v = some l) : v = .ref l := by cases v <;> first | (cases h; done) | (cases h; rfl)
theorem tupM_ok {v : MV} {l : List MV} (h : tupM v = some l) : v = .tup l := by cases v <;> first | (cases h; done) | (cases h; rfl)
theorem natM_ok {v : MV} {n : Nat} (h : natM v = some n) : v = .int (n : Int) := by
  cases v <;> try (cases h; done)
  rename_i i
  replace h : natI i = some n := h
  cases i with
  | ofNat k => cases h; rfl
  | negSucc k => cases h
noncomputable def d3 (k : List Nat) (x y : MV) : Option Nd :=
  cond (eqL k [99, 97, 116]) (cond (okv x && okv y) (some (.cat x y)) none) (cond (eqL k [110, 111, 119]) (cond (okv x && okv y) (some (.now x y)) none) (cond (eqL k [97, 108, 116]) (cond (okv x && okv y) (some (.alt x y)) none)
    (cond (eqL k [101, 110, 100, 32, 110, 111, 119]) ((refM x).bind fun nr => (natM y).bind fun b => some (.en nr b)) none)))
noncomputable def d2 (k : List Nat) (x : MV) : Option Nd :=
  cond (eqL k [99, 104, 97, 114, 115]) ((strM x).bind fun t => cond (lenOk t.length) (some (.chars t)) none) (cond (eqL k [110, 111, 116, 97, 110, 121]) ((strM x).bind fun t => some (.notany t)) none)
noncomputable def dec (l : List MV) : Option Nd := match l with
  | [k, x, y] => (strM k).bind fun k => d3 k x y
  | [k, x] => (strM k).bind fun k => d2 k x
  | _ => none
/-- what is asked of the parts of a node -/
noncomputable def Nd.ok : Nd → Prop
  | .cat x y => okv x = true ∧ okv y = true
  | .alt x y => okv x = true ∧ okv y = true
  | .now x y => okv x = true ∧ okv y = true
  | .chars t => lenOk t.length = true
  | _ => True
theorem eqL_to {a b : List Nat} (h : eqL a b = true) : a = b := (eqL_iff a b).mp h
theorem d3_ok {k : List Nat} {x y : MV} {nd : Nd} (h : d3 k x y = some nd) : MV.tup [.str k, x, y] = nd.er ∧ nd.ok := by
  unfold d3 at h
  cases h1 : eqL k [99, 97, 116] with
  | true =>
    rw [h1] at h; obtain ⟨h2, h3⟩ := cond_some (show cond (okv x && okv y) _ none = _ from h); cases h3
    rw [eqL_to h1]; exact ⟨rfl, Bool.and_eq_true_iff.mp h2⟩
  | false =>
  rw [h1] at h
  cases h1 : eqL k [110, 111, 119] with
  | true =>
    rw [h1] at h; obtain ⟨h2, h3⟩ := cond_some (show cond (okv x && okv y) _ none = _ from h); cases h3
    rw [eqL_to h1]; exact ⟨rfl, Bool.and_eq_true_iff.mp h2⟩
  | false =>
  rw [h1] at h
  cases h1 : eqL k [97, 108, 116] with
  | true =>
    rw [h1] at h; obtain ⟨h2, h3⟩ := cond_some (show cond (okv x && okv y) _ none = _ from h); cases h3
    rw [eqL_to h1]; exact ⟨rfl, Bool.and_eq_true_iff.mp h2⟩
  | false =>
  rw [h1] at h
  cases h1 : eqL k [101, 110, 100, 32, 110, 111, 119] with
  | true =>
    rw [h1] at h
    obtain ⟨nr, h2, h3⟩ := bind_some (show Option.bind _ _ = _ from h)
    obtain ⟨b, h4, h5⟩ := bind_some h3
    cases h5
    rw [eqL_to h1, refM_ok h2, natM_ok h4]; exact ⟨rfl, trivial⟩
  | false => rw [h1] at h; cases h
theorem d2_ok {k : List Nat} {x : MV} {nd : Nd} (h : d2 k x = some nd) : MV.tup [.str k, x] = nd.er ∧ nd.ok := by
  unfold d2 at h
  cases h1 : eqL k [99, 104, 97, 114, 115] with
  | true =>
    rw [h1] at h
    obtain ⟨t, h2, h3⟩ := bind_some (show Option.bind _ _ = _ from h)
    obtain ⟨h4, h5⟩ := cond_some h3
    cases h5
    rw [eqL_to h1, strM_ok h2]; exact ⟨rfl, h4⟩
  | false =>
  rw [h1] at h
  cases h1 : eqL k [110, 111, 116, 97, 110, 121] with
  | true =>
    rw [h1] at h
    obtain ⟨t, h2, h3⟩ := bind_some (show Option.bind _ _ = _ from h)
    cases h3
    rw [eqL_to h1, strM_ok h2]; exact ⟨rfl, trivial⟩
  | false => rw [h1] at h; cases h
theorem dec_ok {l : List MV} {nd : Nd} (h : dec l = some nd) : MV.tup l = nd.er ∧ nd.ok := by
  match l, h with
  | [], h => cases h
  | [_], h => cases h
  | [k, x], h =>
    obtain ⟨k', h1, h2⟩ := bind_some (show Option.bind _ _ = _ from h)
    rw [strM_ok h1]; exact d2_ok h2
  | [k, x, y], h =>
    obtain ⟨k', h1, h2⟩ := bind_some (show Option.bind _ _ = _ from h)
    rw [strM_ok h1]; exact d3_ok h2
  | _ :: _ :: _ :: _ :: _, h => cases h
noncomputable def keyL : List (Nat × MV) → Option (List Nat)
  | [(6, _), (7, _), (8, v)] => strM v
  | _ => none
noncomputable def keyO : Option MO → Option (List Nat)
  | some (.inst 0 ats) => keyL ats
  | _ => none
theorem keyO_ok {o : Option MO} {key : List Nat} (h : keyO o = some key) : ∃ k u, o = some (nameM k u key) := by
  unfold keyO at h
  split at h
  · unfold keyL at h
    split at h
    · rw [strM_ok h]; exact ⟨_, _, rfl⟩
    · cases h
  · cases h
inductive AdR where
  | go (c : MV) (a : Nat) (t : Tu)
  | stop (t : Tu)
noncomputable def chkE (b : Bool) (rest : MV) (e : Nat) (t : Tu) : Option AdR := some (cond b (.go rest e t) (.stop t))
noncomputable def advN (σ : List MO) (s : List Nat) (rest : MV) (a : Nat) (t : Tu) : Nd → Option AdR
  | .cat x y => some (.go (.tup [x, .tup [y, rest]]) a t)
  | .alt x y => cond (lenOk t.pl.length) (some (.go (.tup [x, rest]) a { t with pl := t.pl ++ [.tup [.tup [y, rest], .int (a : Int), .tup []]] })) none
  | .now x y => some (.go (.tup [x, .tup [.tup [.str [101, 110, 100, 32, 110, 111, 119], y, .int (a : Int)], rest]]) a t)
  | .en nr b => (keyO (at? σ nr)).bind fun key => cond (lenOk t.kv.length && lenOk t.lo.length) (some (.go rest a { t with kv := putS key (.str (cut s (some b) (some a))) t.kv, lo := t.lo ++ [.tup [.str key, .str (cut s (some b) (some a))]] })) none
  | .chars u => chkE (eqL (cut s (some a) (some (a + u.length))) u) rest (a + u.length) t
  | .notany u => cond (lenOk a) (chkE (notanyB s a u) rest (a + 1) t) none
noncomputable def advM (σ : List MO) (s : List Nat) (c : MV) (a : Nat) (t : Tu) : Option AdR := (tupM c).bind fun l => match l with
  | [n, rest] => cond (okv rest) ((tupM n).bind fun l => (dec l).bind (advN σ s rest a t)) none
  | _ => none
structure WD (q : Pl) (lim : Int) (σ : List MO) : Prop where
  c : WC q σ
  h : ∃ st, at? σ q.h = some (hostM q.d q.rf q.lg lim st)
  d : ∃ kv, at? σ q.d = some (.dict kv)
  l : ∃ lo, at? σ q.lg = some (.list lo)
  p : ∃ pl, at? σ q.p = some (.list pl)
theorem name_off {q : Pl} {lim : Int} {σ : List MO} (w : WD q lim σ) {nr : Nat} {k u : MV} {key : List Nat} (h : at? σ nr = some (nameM k u key)) : nr ≠ q.h ∧ nr ≠ q.d ∧ nr ≠ q.lg ∧ nr ≠ q.p := by
  refine ⟨fun e => ?_, fun e => ?_, fun e => ?_, fun e => ?_⟩ <;> subst e
  · obtain ⟨_, x⟩ := w.h; rw [x] at h; unfold hostM nameM at h; cases h
  · obtain ⟨_, x⟩ := w.d; rw [x] at h; simp [nameM] at h
  · obtain ⟨_, x⟩ := w.l; rw [x] at h; simp [nameM] at h
  · obtain ⟨_, x⟩ := w.p; rw [x] at h; simp [nameM] at h
/-- what the code gives back -/
noncomputable def AdR.v : AdR → MV
  | .go c a _ => .tup [c, .int (a : Int), .tup []]
  | .stop _ => .none
noncomputable def AdR.t : AdR → Tu
  | .go _ _ t => t
  | .stop t => t
theorem chk_v {b : Bool} {rest : MV} {e : Nat} {t : Tu} {x : AdR} (h : chkE b rest e t = some x) : cond b (.tup [rest, .int (e : Int), .tup []]) .none = x.v ∧ t = x.t := by
  cases h; cases b <;> exact ⟨rfl, rfl⟩
theorem adv_ok {q : Pl} {lim : Int} {σ : List MO} (w : WD q lim σ) {s : List Nat} (hs : lenOk s.length = true) {c : MV} {a : Nat} {t : Tu} {x : AdR} (h : advM σ s c a t = some x) (n : Nat) :
    (rB (n + 110)).call (.fn 17) [c, .int (a : Int), .tup [], .str s, .ref q.p, .ref q.h] (W q lim t σ) = some (x.v, W q lim x.t σ) := by
  obtain ⟨l, e1, h0⟩ := bind_some h
  clear h
  rw [tupM_ok e1]
  have h := h0
  clear h0
  match l, h with
  | [], h => cases h
  | [_], h => cases h
  | _ :: _ :: _ :: _, h => cases h
  | [nd, rest], h =>
  obtain ⟨hr, h⟩ := cond_some h
  obtain ⟨l', e2, h⟩ := bind_some h
  rw [tupM_ok e2]
  obtain ⟨nd, e3, h⟩ := bind_some h
  obtain ⟨e4, hn⟩ := dec_ok e3
  rw [e4]
  have wr := wk_id hr
  cases nd with
  | cat x y => cases h; simp only [Nd.er]; rw [a_cat, wr, wk_id hn.1, wk_id hn.2]; rfl
  | now x y => cases h; simp only [Nd.er]; rw [a_now, wr, wk_id hn.1, wk_id hn.2]; rfl
  | alt x y =>
    obtain ⟨h1, h⟩ := cond_some h
    cases h
    simp only [Nd.er]
    rw [a_alt n (W_p w.c) h1, wr, wk_id hn.1, wk_id hn.2, W_setp w.c]; rfl
  | en nr b =>
    obtain ⟨key, h1, h⟩ := bind_some h
    obtain ⟨h2, h⟩ := cond_some h
    obtain ⟨h3, h4⟩ := Bool.and_eq_true_iff.mp h2
    obtain ⟨k, u, hk⟩ := keyO_ok h1
    obtain ⟨o1, o2, o3, o4⟩ := name_off w hk
    cases h
    simp only [Nd.er]
    rw [a_endnow n (W_h w.c) ((W_o w.c o1 o2 o3 o4).trans hk) (W_r w.c) (W_d w.c) (W_l w.c) w.c.dl w.c.hd o2 h3 h4 hs, wr, W_setd w.c, W_setl w.c]; rfl
  | chars u =>
    simp only [Nd.er]
    rw [a_chars n hs hn, wr, (chk_v h).1, ← (chk_v h).2]
  | notany u =>
    obtain ⟨h1, h⟩ := cond_some h
    simp only [Nd.er]
    rw [a_notany n hs h1, wr, (chk_v h).1, ← (chk_v h).2]
end Mine

open PySem PySem.W PyProof.Rows PySem.Calls
namespace Mine
set_option autoImplicit false
set_option backward.match.sparseCases false
set_option linter.unusedVariables false
set_option linter.unusedSimpArgs false
set_option maxRecDepth 100000
set_option maxHeartbeats 4000000
/-- the slots of tried -/
noncomputable def SL (node : MV) (s : List Nat) (b : Int) (q : Pl) (way c : MV) (a : Nat) : List Slot :=
  [.loc (some node), .loc (some (.str s)), .loc (some (.int b)), .loc (some (.ref q.h)), .loc (some (.ref q.p)), .loc (some way), .loc (some c), .loc (some (.int (a : Int))), .loc (some (.tup [])), .glb (.bi .len), .glb (.str [108, 111, 115, 116]), .glb (.fn 17), .glb (.bi .list)]
noncomputable def outS : S := (at? db_tried 1).getD (.raw noSt)
noncomputable def bodyW : S → List S
  | .whl _ b _ => b
  | _ => []
noncomputable def testW : S → E
  | .whl t _ _ => t
  | _ => .raw (.Constant .none 0 ⟨0, 0, 0, 0⟩)
noncomputable def inS : S := (at? (bodyW outS) 3).getD (.raw noSt)
inductive InR where
  | done (a : Nat) (t : Tu)
  | broke (t : Tu)
noncomputable def inN (k : MV → Nat → Tu → Option InR) : AdR → Option InR
  | .go c a t => k c a t
  | .stop t => some (.broke t)
noncomputable def isNo : MV → Bool
  | .none => true
  | _ => false
noncomputable def inM (lim : Int) (σ : List MO) (s : List Nat) : Nat → MV → Nat → Tu → Option InR
  | 0, _, _, _ => none
  | f + 1, c, a, t => cond (isNo c) (some (.done a t)) (cond (decide (lim < t.st + 1)) none ((advM σ s c a { t with st := t.st + 1 }).bind (inN (inM lim σ s f))))
theorem advM_tup {σ : List MO} {s : List Nat} {c : MV} {a : Nat} {t : Tu} {x : AdR} (h : advM σ s c a t = some x) : ∃ l, c = .tup l := by
  obtain ⟨l, e1, _⟩ := bind_some h
  exact ⟨l, tupM_ok e1⟩
theorem lost_ne (l : List MV) (σ : List MO) : cEq σ (.tup l) (.str [108, 111, 115, 116]) = some false := rfl
theorem in_test_no (n : Nat) (node : MV) (s : List Nat) (b : Int) (q : Pl) (way : MV) (a : Nat) (σ : List MO) : (rB (n + 10)).t (testW inS) (SL node s b q way .none a) σ = some (false, σ) := by
  rfl
theorem in_test (n : Nat) (node : MV) (s : List Nat) (b : Int) (q : Pl) (way : MV) (l : List MV) (a : Nat) (σ : List MO) : (rB (n + 10)).t (testW inS) (SL node s b q way (.tup l) a) σ = some (true, σ) := by
  rfl
/-- one turn of the inner loop -/
theorem in_go (n : Nat) {node : MV} {s : List Nat} {b : Int} {q : Pl} {way : MV} {lim : Int} {l : List MV} {a : Nat} {t : Tu} {σ : List MO} (w : WD q lim σ) (hs : lenOk s.length = true) (hl : ¬ lim < t.st + 1) {c' : MV} {a' : Nat} {t' : Tu} (h : advM σ s (.tup l) a { t with st := t.st + 1 } = some (.go c' a' t')) (hc : okv c' = true) :
    (rB (n + 130)).ss (bodyW inS) (SL node s b q way (.tup l) a) (W q lim t σ) = some (.next, SL node s b q (.tup [c', .int (a' : Int), .tup []]) c' a', W q lim t' σ) := by
  have hst : mSel dCT (W q lim t σ) 17 (.ref q.h) = some (.own 7) := sel_own (W_h w.c) rfl rfl rfl rfl rfl
  have h1 := fun n => L_step n (W_h (t := t) w.c) hl
  simp only [W_seth w.c] at h1
  have h2 := fun n => adv_ok w hs h n
  simp only [AdR.v, AdR.t] at h2
  show (rB (n + 130)).ss (bodyW ((at? (bodyW ((at? db_tried 1).getD (.raw noSt))) 3).getD (.raw noSt))) _ _ = _
  unfold db_tried SL
  simp only [rB_ss, rB_s, rB_e, rB_es, rB_eo, rB_t, rB_ts, rB_a, rB_as, stepSs, fSs, stepS, fS, stepE, fE, stepEs, fEs, stepEo, stepT, fT, stepTs, fTs, stepA, fA, stepAs, ssN, tsN, tsE, getS, Option.bind_some, Option.bind_none, Option.map_some, cond_true, cond_false, retN, Cst.mv, Nat.beq_refl, wk_str, wk_chr, wk_int, wk_tup, wk_none, wk_ref, wk_bool, wk_wk, endv_ok, lk0, lk1, lk2, lk3, lk4, lk5, lk6, lk7, lk8, bl0, bl1, bl2, bl3, List.map_cons, List.map_nil, List.length_cons, List.length_nil, at?_z, at?_s, setAt_z, setAt_s, r0, asgB, isCst, List.all_cons, List.all_nil, List.any_cons, List.any_nil, asTup, putSl, eSub, subs, nth0, nth1, nth2, eCmp, cmpop, cIs, isNone, okAny, notAny, eBin, binop, bAdd, bII, eSlc, part, cutE, eCall, truth, exB, sEx, eMeth, okBase, mApp, Bool.not_true, Bool.not_false, Bool.and_true, Bool.and_false, Bool.true_and, Bool.false_and, Bool.or_true, Bool.or_false, Bool.true_or, Bool.false_or, Option.getD_some, bodyW, hst, h1, h2, lost_ne, wk_id hc]
theorem in_stop (n : Nat) {node : MV} {s : List Nat} {b : Int} {q : Pl} {way : MV} {lim : Int} {l : List MV} {a : Nat} {t : Tu} {σ : List MO} (w : WD q lim σ) (hs : lenOk s.length = true) (hl : ¬ lim < t.st + 1) {t' : Tu} (h : advM σ s (.tup l) a { t with st := t.st + 1 } = some (.stop t')) :
    (rB (n + 130)).ss (bodyW inS) (SL node s b q way (.tup l) a) (W q lim t σ) = some (.brk, SL node s b q .none (.tup l) a, W q lim t' σ) := by
  have hst : mSel dCT (W q lim t σ) 17 (.ref q.h) = some (.own 7) := sel_own (W_h w.c) rfl rfl rfl rfl rfl
  have h1 := fun n => L_step n (W_h (t := t) w.c) hl
  simp only [W_seth w.c] at h1
  have h2 := fun n => adv_ok w hs h n
  simp only [AdR.v, AdR.t] at h2
  show (rB (n + 130)).ss (bodyW ((at? (bodyW ((at? db_tried 1).getD (.raw noSt))) 3).getD (.raw noSt))) _ _ = _
  unfold db_tried SL
  simp only [rB_ss, rB_s, rB_e, rB_es, rB_eo, rB_t, rB_ts, rB_a, rB_as, stepSs, fSs, stepS, fS, stepE, fE, stepEs, fEs, stepEo, stepT, fT, stepTs, fTs, stepA, fA, stepAs, ssN, tsN, tsE, getS, Option.bind_some, Option.bind_none, Option.map_some, cond_true, cond_false, retN, Cst.mv, Nat.beq_refl, wk_str, wk_chr, wk_int, wk_tup, wk_none, wk_ref, wk_bool, wk_wk, endv_ok, lk0, lk1, lk2, lk3, lk4, lk5, lk6, lk7, lk8, bl0, bl1, bl2, bl3, List.map_cons, List.map_nil, List.length_cons, List.length_nil, at?_z, at?_s, setAt_z, setAt_s, r0, asgB, isCst, List.all_cons, List.all_nil, List.any_cons, List.any_nil, asTup, putSl, eSub, subs, nth0, nth1, nth2, eCmp, cmpop, cIs, isNone, okAny, notAny, eBin, binop, bAdd, bII, eSlc, part, cutE, eCall, truth, exB, sEx, eMeth, okBase, mApp, Bool.not_true, Bool.not_false, Bool.and_true, Bool.and_false, Bool.true_and, Bool.false_and, Bool.or_true, Bool.or_false, Bool.true_or, Bool.false_or, Option.getD_some, bodyW, hst, h1, h2, lost_ne]
end Mine

open PySem PySem.W PyProof.Rows PySem.Calls
namespace Mine
set_option autoImplicit false
set_option backward.match.sparseCases false
set_option linter.unusedVariables false
set_option linter.unusedSimpArgs false
set_option maxRecDepth 100000
set_option maxHeartbeats 4000000
theorem advN_okv {σ : List MO} {s : List Nat} {rest : MV} {a : Nat} {t : Tu} (hr : okv rest = true) {nd : Nd} {c' : MV} {a' : Nat} {t' : Tu} (h : advN σ s rest a t nd = some (.go c' a' t')) : okv c' = true := by
  cases nd with
  | cat x y => cases h; rfl
  | now x y => cases h; rfl
  | alt x y => obtain ⟨_, h⟩ := cond_some h; cases h; rfl
  | en nr b => obtain ⟨_, _, h⟩ := bind_some h; obtain ⟨_, h⟩ := cond_some h; cases h; exact hr
  | chars u =>
    replace h : chkE _ _ _ _ = _ := h
    unfold chkE at h
    cases hb : eqL (cut s (some a) (some (a + u.length))) u <;> rw [hb] at h <;> cases h
    exact hr
  | notany u =>
    obtain ⟨_, h⟩ := cond_some h
    unfold chkE at h
    cases hb : notanyB s a u <;> rw [hb] at h <;> cases h
    exact hr
theorem advM_okv {σ : List MO} {s : List Nat} {c : MV} {a : Nat} {t : Tu} {c' : MV} {a' : Nat} {t' : Tu} (h : advM σ s c a t = some (.go c' a' t')) : okv c' = true := by
  obtain ⟨l, e1, h⟩ := bind_some h
  match l, h with
  | [], h => cases h
  | [_], h => cases h
  | _ :: _ :: _ :: _, h => cases h
  | [nd, rest], h =>
  obtain ⟨hr, h⟩ := cond_some h
  obtain ⟨l', e2, h⟩ := bind_some h
  obtain ⟨nd, e3, h⟩ := bind_some h
  exact advN_okv hr h
theorem isNo_ok {c : MV} (h : isNo c = true) : c = .none := by cases c <;> first | rfl | cases h
section
variable {q : Pl} {lim : Int} {σ : List MO} (w : WD q lim σ) {s : List Nat} (hs : lenOk s.length = true) (node : MV) (b : Int)
include w hs
theorem in_ok : ∀ (f : Nat) (n : Nat) (way c : MV) (a : Nat) (t : Tu) (x : InR), inM lim σ s f c a t = some x → ∃ way' c' a', (rB (n + f + 135)).wh (testW inS) (bodyW inS) (SL node s b q way c a) (W q lim t σ) = some (.next, SL node s b q way' c' a', W q lim (match x with | .done _ t => t | .broke t => t) σ) ∧
    (match x with | .done a _ => c' = .none ∧ a' = a | .broke _ => ∃ l, c' = .tup l)
  | 0, n, way, c, a, t, x, h => by cases h
  | f + 1, n, way, c, a, t, x, h => by
    show ∃ way' c' a', stepWh (rB (n + f + 135)) (testW inS) (bodyW inS) (SL node s b q way c a) (W q lim t σ) = _ ∧ _
    unfold stepWh
    unfold inM at h
    cases hc : isNo c with
    | true =>
      rw [hc] at h
      cases h
      rw [isNo_ok hc]
      refine ⟨way, .none, a, ?_, rfl, rfl⟩
      rw [in_test_no (n + f + 125)]; rfl
    | false =>
      rw [hc] at h
      replace h : cond (decide (lim < t.st + 1)) none _ = some x := h
      cases hl : decide (lim < t.st + 1) with
      | true => rw [hl] at h; cases h
      | false =>
        rw [hl] at h
        have hl' : ¬ lim < t.st + 1 := of_decide_eq_false hl
        obtain ⟨y, e1, h⟩ := bind_some (show Option.bind _ _ = some x from h)
        obtain ⟨l, rfl⟩ := advM_tup e1
        rw [in_test (n + f + 125)]
        cases y with
        | go c' a' t' =>
          have g := in_go (n + f + 5) (node := node) (b := b) (way := way) w hs hl' e1 (advM_okv e1)
          rw [show n + f + 5 + 130 = n + f + 135 by omega] at g
          obtain ⟨w2, c2, a2, h1, h2⟩ := in_ok f n (.tup [c', .int (a' : Int), .tup []]) c' a' t' x h
          refine ⟨w2, c2, a2, ?_, h2⟩
          simp only [Option.bind_some, cond_true, g, whN]
          exact h1
        | stop t' =>
          have g := in_stop (n + f + 5) (node := node) (b := b) (way := way) w hs hl' e1
          rw [show n + f + 5 + 130 = n + f + 135 by omega] at g
          cases h
          refine ⟨.none, .tup l, a, ?_, l, rfl⟩
          simp only [Option.bind_some, cond_true, g, whN]
end
/-- the slots of tried, as the pile is there -/
noncomputable def SO (node : MV) (s : List Nat) (b : Int) (q : Pl) (x5 x6 x7 x8 : Option MV) : List Slot :=
  [.loc (some node), .loc (some (.str s)), .loc (some (.int b)), .loc (some (.ref q.h)), .loc (some (.ref q.p)), .loc x5, .loc x6, .loc x7, .loc x8, .glb (.bi .len), .glb (.str [108, 111, 115, 116]), .glb (.fn 17), .glb (.bi .list)]
theorem SL_SO (node : MV) (s : List Nat) (b : Int) (q : Pl) (way c : MV) (a : Nat) : SL node s b q way c a = SO node s b q (some way) (some c) (some (.int (a : Int))) (some (.tup [])) := rfl
theorem len_list {σ : List MO} {i : Nat} {xs : List MV} (h : at? σ i = some (.list xs)) (hl : lenOk xs.length = true) : biCall .len [.ref i] σ = some (.int (xs.length : Int), σ) := by
  show lenR σ (at? σ i) = _; rw [h]; show cond (lenOk xs.length) _ none = _; rw [hl]; rfl
theorem sel_pop {σ : List MO} {i : Nat} {xs : List MV} (h : at? σ i = some (.list xs)) : mSel dCT σ 11 (.ref i) = some .list := by
  show selR dCT 11 (at? σ i) = _; rw [h]; rfl
theorem ap_pop {σ : List MO} {i : Nat} {xs ys : List MV} {v : MV} (h : at? σ i = some (.list xs)) (hl : lenOk xs.length = true) (hp : popL xs = some (ys, v)) : apLv σ 11 [] (.ref i) = some (v, setAt (.list ys) σ i) := by
  show apL σ i 11 [] (at? σ i) = _; rw [h]; show cond (lenOk xs.length) ((popL xs).bind _) _ = _; rw [hl, hp]; rfl
theorem bList_nil (σ : List MO) : biCall .list [.tup []] σ = some (.ref σ.length, σ ++ [.list []]) := rfl
theorem gt_zero (k : Nat) : decide ((0 : Int) < (k : Int)) = Nat.blt 0 k := by
  rw [Bool.eq_iff_iff, decide_eq_true_eq, Nat.blt_eq]; exact Int.natCast_pos
section
variable {q : Pl} {lim : Int} {σ : List MO} (w : WD q lim σ) {s : List Nat} (hs : lenOk s.length = true) (node : MV) (b : Int)
include w
theorem out_test (n : Nat) (x5 x6 x7 x8 : Option MV) {t : Tu} (hl : lenOk t.pl.length = true) : (rB (n + 20)).t (testW outS) (SO node s b q x5 x6 x7 x8) (W q lim t σ) = some (Nat.blt 0 t.pl.length, W q lim t σ) := by
  show (rB (n + 20)).t (testW ((at? db_tried 1).getD (.raw noSt))) _ _ = _
  unfold db_tried SO
  simp only [rB_ss, rB_s, rB_e, rB_es, rB_eo, rB_t, rB_ts, rB_a, rB_as, stepSs, fSs, stepS, fS, stepE, fE, stepEs, fEs, stepEo, stepT, fT, stepTs, fTs, stepA, fA, stepAs, ssN, tsN, tsE, getS, Option.bind_some, Option.bind_none, Option.map_some, cond_true, cond_false, retN, Cst.mv, Nat.beq_refl, wk_str, wk_chr, wk_int, wk_tup, wk_none, wk_ref, wk_bool, wk_wk, endv_ok, lk0, lk1, lk2, lk3, lk4, lk5, lk6, lk7, lk8, bl0, bl1, bl2, bl3, List.map_cons, List.map_nil, List.length_cons, List.length_nil, at?_z, at?_s, setAt_z, setAt_s, r0, asgB, isCst, List.all_cons, List.all_nil, List.any_cons, List.any_nil, asTup, putSl, eSub, subs, nth0, nth1, nth2, eCmp, cmpop, cIs, isNone, okAny, notAny, eBin, binop, bAdd, bII, eSlc, part, cutE, eCall, truth, exB, sEx, eMeth, okBase, mApp, Bool.not_true, Bool.not_false, Bool.and_true, Bool.and_false, Bool.true_and, Bool.false_and, Bool.or_true, Bool.or_false, Bool.true_or, Bool.false_or, Option.getD_some, testW, call_bi, len_list (W_p (t := t) w.c) hl, cInt, gt_zero]
include hs
theorem out_done (f n : Nat) (x5 x6 x7 x8 : Option MV) {t : Tu} (hl : lenOk t.pl.length = true) {pl : List MV} {c : MV} {a : Nat} (hp : popL t.pl = some (pl, .tup [c, .int (a : Int), .tup []])) (hc : okv c = true) {a' : Nat} {t' : Tu} (h : inM lim σ s f c a { t with pl := pl } = some (.done a' t')) :
    ∃ sl, (rB (n + f + 160)).ss (bodyW outS) (SO node s b q x5 x6 x7 x8) (W q lim t σ) = some (.ret (.tup [.int (a' : Int), .ref (W q lim t' σ).length]), sl, W q lim t' σ ++ [.list []]) := by
  have hpp := W_p (t := t) (lim := lim) w.c
  have e1 := ap_pop hpp hl hp
  rw [W_setp w.c] at e1
  obtain ⟨way', c', a2, g, rfl, rfl⟩ := in_ok w hs node b f (n + 20) (.tup [c, .int (a : Int), .tup []]) c a _ _ h
  rw [show n + 20 + f + 135 = n + f + 155 by omega] at g
  unfold SL at g
  refine ⟨SO node s b q (some way') (some .none) (some (.int (a2 : Int))) (some (.tup [])), ?_⟩
  have hin : inS = (at? (bodyW ((at? db_tried 1).getD (.raw noSt))) 3).getD (.raw noSt) := rfl
  rw [hin] at g
  unfold db_tried at g
  simp only [at?_z, at?_s, Option.getD_some, bodyW, testW] at g
  show (rB (n + f + 160)).ss (bodyW ((at? db_tried 1).getD (.raw noSt))) _ _ = _
  unfold db_tried SO
  simp only [rB_ss, rB_s, rB_e, rB_es, rB_eo, rB_t, rB_ts, rB_a, rB_as, stepSs, fSs, stepS, fS, stepE, fE, stepEs, fEs, stepEo, stepT, fT, stepTs, fTs, stepA, fA, stepAs, ssN, tsN, tsE, getS, Option.bind_some, Option.bind_none, Option.map_some, cond_true, cond_false, retN, Cst.mv, Nat.beq_refl, wk_str, wk_chr, wk_int, wk_tup, wk_none, wk_ref, wk_bool, wk_wk, endv_ok, lk0, lk1, lk2, lk3, lk4, lk5, lk6, lk7, lk8, bl0, bl1, bl2, bl3, List.map_cons, List.map_nil, List.length_cons, List.length_nil, at?_z, at?_s, setAt_z, setAt_s, r0, asgB, isCst, List.all_cons, List.all_nil, List.any_cons, List.any_nil, asTup, putSl, eSub, subs, nth0, nth1, nth2, eCmp, cmpop, cIs, isNone, okAny, notAny, eBin, binop, bAdd, bII, eSlc, part, cutE, eCall, truth, exB, sEx, eMeth, okBase, mApp, Bool.not_true, Bool.not_false, Bool.and_true, Bool.and_false, Bool.true_and, Bool.false_and, Bool.or_true, Bool.or_false, Bool.true_or, Bool.false_or, Option.getD_some, bodyW, sel_pop hpp, e1, wk_id hc, g, call_bi, bList_nil]
theorem out_broke (f n : Nat) (x5 x6 x7 x8 : Option MV) {t : Tu} (hl : lenOk t.pl.length = true) {pl : List MV} {c : MV} {a : Nat} (hp : popL t.pl = some (pl, .tup [c, .int (a : Int), .tup []])) (hc : okv c = true) {t' : Tu} (h : inM lim σ s f c a { t with pl := pl } = some (.broke t')) :
    ∃ x5' x6' x7' x8', (rB (n + f + 160)).ss (bodyW outS) (SO node s b q x5 x6 x7 x8) (W q lim t σ) = some (.next, SO node s b q x5' x6' x7' x8', W q lim t' σ) := by
  have hpp := W_p (t := t) (lim := lim) w.c
  have e1 := ap_pop hpp hl hp
  rw [W_setp w.c] at e1
  obtain ⟨way', c', a2, g, l, rfl⟩ := in_ok w hs node b f (n + 20) (.tup [c, .int (a : Int), .tup []]) c a _ _ h
  rw [show n + 20 + f + 135 = n + f + 155 by omega] at g
  unfold SL at g
  refine ⟨some way', some (.tup l), some (.int (a2 : Int)), some (.tup []), ?_⟩
  have hin : inS = (at? (bodyW ((at? db_tried 1).getD (.raw noSt))) 3).getD (.raw noSt) := rfl
  rw [hin] at g
  unfold db_tried at g
  simp only [at?_z, at?_s, Option.getD_some, bodyW, testW] at g
  show (rB (n + f + 160)).ss (bodyW ((at? db_tried 1).getD (.raw noSt))) _ _ = _
  unfold db_tried SO
  simp only [rB_ss, rB_s, rB_e, rB_es, rB_eo, rB_t, rB_ts, rB_a, rB_as, stepSs, fSs, stepS, fS, stepE, fE, stepEs, fEs, stepEo, stepT, fT, stepTs, fTs, stepA, fA, stepAs, ssN, tsN, tsE, getS, Option.bind_some, Option.bind_none, Option.map_some, cond_true, cond_false, retN, Cst.mv, Nat.beq_refl, wk_str, wk_chr, wk_int, wk_tup, wk_none, wk_ref, wk_bool, wk_wk, endv_ok, lk0, lk1, lk2, lk3, lk4, lk5, lk6, lk7, lk8, bl0, bl1, bl2, bl3, List.map_cons, List.map_nil, List.length_cons, List.length_nil, at?_z, at?_s, setAt_z, setAt_s, r0, asgB, isCst, List.all_cons, List.all_nil, List.any_cons, List.any_nil, asTup, putSl, eSub, subs, nth0, nth1, nth2, eCmp, cmpop, cIs, isNone, okAny, notAny, eBin, binop, bAdd, bII, eSlc, part, cutE, eCall, truth, exB, sEx, eMeth, okBase, mApp, Bool.not_true, Bool.not_false, Bool.and_true, Bool.and_false, Bool.true_and, Bool.false_and, Bool.or_true, Bool.or_false, Bool.true_or, Bool.false_or, Option.getD_some, bodyW, sel_pop hpp, e1, wk_id hc, g]
end
end Mine

open PySem PySem.W PyProof.Rows PySem.Calls
namespace Mine
set_option autoImplicit false
set_option backward.match.sparseCases false
set_option linter.unusedVariables false
set_option linter.unusedSimpArgs false
set_option maxRecDepth 100000
set_option maxHeartbeats 4000000
inductive OuR where
  | found (a : Nat) (t : Tu)
  | fail (t : Tu)
noncomputable def isE : MV → Bool
  | .tup [] => true
  | _ => false
theorem isE_ok {v : MV} (h : isE v = true) : v = .tup [] := by
  cases v <;> try (cases h; done)
  rename_i l
  cases l with
  | nil => rfl
  | cons _ _ => cases h
noncomputable def way3 : MV → Option (MV × Nat) := fun v => (tupM v).bind fun l => match l with
  | [c, a, nm] => cond (okv c && isE nm) ((natM a).bind fun a => some (c, a)) none
  | _ => none
theorem way3_ok {v : MV} {p : MV × Nat} (h : way3 v = some p) : v = .tup [p.1, .int (p.2 : Int), .tup []] ∧ okv p.1 = true := by
  obtain ⟨l, e1, h⟩ := bind_some h
  rw [tupM_ok e1]
  match l, h with
  | [], h => cases h
  | [_], h => cases h
  | [_, _], h => cases h
  | _ :: _ :: _ :: _ :: _, h => cases h
  | [c, a, nm], h =>
  obtain ⟨h1, h⟩ := cond_some h
  obtain ⟨h2, h3⟩ := Bool.and_eq_true_iff.mp h1
  obtain ⟨k, e2, h⟩ := bind_some h
  cases h
  rw [natM_ok e2, isE_ok h3]
  exact ⟨rfl, h2⟩
noncomputable def outI (k : Tu → Option OuR) : InR → Option OuR
  | .done a t => some (.found a t)
  | .broke t => k t
noncomputable def outP (lim : Int) (σ : List MO) (s : List Nat) (f : Nat) (k : Tu → Option OuR) (t : Tu) : Option (List MV × MV) → Option OuR
  | none => some (.fail t)
  | some p => (way3 p.2).bind fun w => (inM lim σ s f w.1 w.2 { t with pl := p.1 }).bind (outI k)
noncomputable def outM (lim : Int) (σ : List MO) (s : List Nat) (f : Nat) : Nat → Tu → Option OuR
  | 0, _ => none
  | g + 1, t => cond (lenOk t.pl.length) (outP lim σ s f (outM lim σ s f g) t (popL t.pl)) none
theorem popL_none {xs : List MV} (h : popL xs = none) : xs = [] := by
  cases xs with
  | nil => rfl
  | cons x xs => unfold popL at h; split at h <;> cases h
theorem popL_nil {xs : List MV} {p : List MV × MV} (h : popL xs = some p) : 0 < xs.length := by
  cases xs with
  | nil => cases h
  | cons x xs => exact Nat.succ_pos _
noncomputable def OuR.t : OuR → Tu
  | .found _ t => t
  | .fail t => t
section
variable {q : Pl} {lim : Int} {σ : List MO} (w : WD q lim σ) {s : List Nat} (hs : lenOk s.length = true) (node : MV) (b : Int)
include w hs
theorem out_ok (f : Nat) : ∀ (g : Nat) (n : Nat) (x5 x6 x7 x8 : Option MV) (t : Tu) (x : OuR), outM lim σ s f g t = some x →
    ∃ sl, (rB (n + g + f + 165)).wh (testW outS) (bodyW outS) (SO node s b q x5 x6 x7 x8) (W q lim t σ) = some (match x with
      | .found a t' => (.ret (.tup [.int (a : Int), .ref σ.length]), sl, W q lim t' σ ++ [.list []])
      | .fail t' => (.next, sl, W q lim t' σ))
  | 0, n, x5, x6, x7, x8, t, x, h => by cases h
  | g + 1, n, x5, x6, x7, x8, t, x, h => by
    rw [show n + (g + 1) + f + 165 = n + g + f + 165 + 1 by omega]
    show ∃ sl, stepWh (rB (n + g + f + 165)) (testW outS) (bodyW outS) (SO node s b q x5 x6 x7 x8) (W q lim t σ) = _
    unfold stepWh
    unfold outM at h
    obtain ⟨hl, h⟩ := cond_some h
    rw [show n + g + f + 165 = n + g + f + 145 + 20 by omega, out_test w node b (n + g + f + 145) x5 x6 x7 x8 hl]
    cases hp : popL t.pl with
    | none =>
      rw [hp] at h
      cases h
      rw [popL_none hp]
      exact ⟨_, rfl⟩
    | some p =>
      rw [hp] at h
      obtain ⟨wy, e1, h⟩ := bind_some (show Option.bind _ _ = some x from h)
      obtain ⟨y, e2, h⟩ := bind_some h
      obtain ⟨e3, hc⟩ := way3_ok e1
      obtain ⟨pl, pv⟩ := p
      obtain ⟨c, a⟩ := wy
      simp only at e3 hc e2
      subst e3
      have hb : Nat.blt 0 t.pl.length = true := Nat.blt_eq.mpr (popL_nil hp)
      simp only [hb, Option.bind_some, cond_true]
      cases y with
      | done a' t' =>
        cases h
        obtain ⟨sl, e⟩ := out_done w hs node b f (n + g + 5) x5 x6 x7 x8 hl hp hc e2
        rw [show n + g + 5 + f + 160 = n + g + f + 145 + 20 by omega] at e
        refine ⟨sl, ?_⟩
        simp only [e, Option.bind_some, whN, W_length]
      | broke t' =>
        obtain ⟨y5, y6, y7, y8, e⟩ := out_broke w hs node b f (n + g + 5) x5 x6 x7 x8 hl hp hc e2
        rw [show n + g + 5 + f + 160 = n + g + f + 145 + 20 by omega] at e
        obtain ⟨sl, e'⟩ := out_ok f g n y5 y6 y7 y8 t' x h
        rw [show n + g + f + 165 = n + g + f + 145 + 20 by omega] at e'
        refine ⟨sl, ?_⟩
        simp only [e, Option.bind_some, whN]
        exact e'
end
/-! ## in terms of the store ahead -/
noncomputable def H (q : Pl) (lim : Int) (t : Tu) (σ : List MO) : List MO :=
  setAt (hostM q.d q.rf q.lg lim t.st) (setAt (.dict t.kv) (setAt (.list t.lo) σ q.lg) q.d) q.h
/-- a host, its dict, its refused names, its log, in a store -/
structure Ho (q : Pl) (lim : Int) (σ : List MO) : Prop where
  h : ∃ st, at? σ q.h = some (hostM q.d q.rf q.lg lim st)
  d : ∃ kv, at? σ q.d = some (.dict kv)
  l : ∃ lo, at? σ q.lg = some (.list lo)
  r : at? σ q.rf = some (.list [])
  rl : q.rf ≠ q.lg
theorem neq_of {α : Type} {σ : List α} {i j : Nat} {x y : α} (h1 : at? σ i = some x) (h2 : at? σ j = some y) (h : x ≠ y) : i ≠ j := fun e => by
  subst e; rw [h1] at h2; exact h (Option.some.inj h2)
section
variable {q : Pl} {lim : Int} {σ : List MO} (ho : Ho q lim σ)
include ho
theorem Ho.ne : q.h ≠ q.d ∧ q.h ≠ q.lg ∧ q.d ≠ q.lg ∧ q.rf ≠ q.h ∧ q.rf ≠ q.d := by
  obtain ⟨_, h1⟩ := ho.h
  obtain ⟨_, h2⟩ := ho.d
  obtain ⟨_, h3⟩ := ho.l
  have h4 := ho.r
  exact ⟨neq_of h1 h2 (by simp [hostM]), neq_of h1 h3 (by simp [hostM]), neq_of h2 h3 (by simp), neq_of h4 h1 (by simp [hostM]), neq_of h4 h2 (by simp)⟩
theorem H_h (t : Tu) : at? (H q lim t σ) q.h = some (hostM q.d q.rf q.lg lim t.st) := by
  obtain ⟨n1, n2, n3, n4, n5⟩ := ho.ne
  obtain ⟨_, h1⟩ := ho.h
  unfold H; exact at?_set' ⟨_, by rw [at?_ne n1.symm, at?_ne n2.symm]; exact h1⟩
theorem H_d (t : Tu) : at? (H q lim t σ) q.d = some (.dict t.kv) := by
  obtain ⟨n1, n2, n3, n4, n5⟩ := ho.ne
  obtain ⟨_, h1⟩ := ho.d
  unfold H; rw [at?_ne n1]; exact at?_set' ⟨_, by rw [at?_ne n3.symm]; exact h1⟩
theorem H_l (t : Tu) : at? (H q lim t σ) q.lg = some (.list t.lo) := by
  obtain ⟨n1, n2, n3, n4, n5⟩ := ho.ne
  unfold H; rw [at?_ne n2, at?_ne n3]; obtain ⟨_, h1⟩ := ho.l; exact at?_set' ⟨_, h1⟩
theorem H_o (t : Tu) {i : Nat} (h1 : i ≠ q.h) (h2 : i ≠ q.d) (h3 : i ≠ q.lg) : at? (H q lim t σ) i = at? σ i := by
  unfold H; rw [at?_ne h1.symm, at?_ne h2.symm, at?_ne h3.symm]
theorem H_len (t : Tu) : (H q lim t σ).length = σ.length := by unfold H; rw [set_length, set_length, set_length]
theorem H_H (t u : Tu) : H q lim u (H q lim t σ) = H q lim u σ := by
  obtain ⟨n1, n2, n3, n4, n5⟩ := ho.ne
  unfold H
  rw [set_comm n2 (v := MO.list u.lo), set_comm n3 (v := MO.list u.lo), set_set, set_comm n1 (v := MO.dict u.kv), set_comm n3.symm (v := MO.dict u.kv), set_set, set_comm n3 (u := MO.dict u.kv)]
  rw [set_set]
theorem H_app (t : Tu) (τ : List MO) : H q lim t (σ ++ τ) = H q lim t σ ++ τ := by
  obtain ⟨_, h1⟩ := ho.h
  obtain ⟨_, h2⟩ := ho.d
  obtain ⟨_, h3⟩ := ho.l
  unfold H
  rw [set_append (at?_lt h3), set_append (by rw [set_length]; exact at?_lt h2), set_append (by rw [set_length, set_length]; exact at?_lt h1)]
theorem Ho.of (t : Tu) : Ho q lim (H q lim t σ) := by
  obtain ⟨n1, n2, n3, n4, n5⟩ := ho.ne
  exact ⟨⟨_, H_h ho t⟩, ⟨_, H_d ho t⟩, ⟨_, H_l ho t⟩, by rw [H_o ho t n4 n5 ho.rl]; exact ho.r, ho.rl⟩
theorem Ho.app (τ : List MO) : Ho q lim (σ ++ τ) := by
  obtain ⟨_, h1⟩ := ho.h
  obtain ⟨_, h2⟩ := ho.d
  obtain ⟨_, h3⟩ := ho.l
  exact ⟨⟨_, by rw [at?_append (at?_lt h1)]; exact h1⟩, ⟨_, by rw [at?_append (at?_lt h2)]; exact h2⟩, ⟨_, by rw [at?_append (at?_lt h3)]; exact h3⟩, by rw [at?_append (at?_lt ho.r)]; exact ho.r, ho.rl⟩
end
theorem WD_of {q : Pl} {lim : Int} {σ : List MO} {pl : List MV} (ho : Ho q lim σ) (hp : q.p = σ.length) : WD q lim (σ ++ [.list pl]) := by
  obtain ⟨n1, n2, n3, n4, n5⟩ := ho.ne
  have h1 := (ho.app [.list pl])
  have e : at? (σ ++ [.list pl]) q.p = some (.list pl) := by rw [hp]; exact at?_last
  have lt : ∀ {i : Nat}, i < σ.length → i ≠ q.p := fun h e => by rw [e, hp] at h; exact Nat.lt_irrefl _ h
  obtain ⟨_, g1⟩ := ho.h
  obtain ⟨_, g2⟩ := ho.d
  obtain ⟨_, g3⟩ := ho.l
  exact ⟨⟨h1.h.imp' _ (fun _ h => h), h1.d.imp' _ (fun _ h => h), h1.l.imp' _ (fun _ h => h), ⟨_, e⟩, h1.r, n1, n2, lt (at?_lt g1), n3, lt (at?_lt g2), lt (at?_lt g3), n4, n5, ho.rl, lt (at?_lt ho.r)⟩, h1.h, h1.d, h1.l, ⟨_, e⟩⟩
theorem W_H {q : Pl} {lim : Int} {σ : List MO} {pl : List MV} (ho : Ho q lim σ) (hp : q.p = σ.length) (t : Tu) : W q lim t (σ ++ [.list pl]) = H q lim t σ ++ [.list t.pl] := by
  show setAt (.list t.pl) (H q lim t (σ ++ [.list pl])) q.p = _
  rw [H_app ho, hp, ← H_len ho t, set_last]
/-! ## the machine looks up names alone -/
section
variable {σ σ' : List MO} (hk : ∀ nr key, keyO (at? σ nr) = some key → keyO (at? σ' nr) = some key)
include hk
theorem advM_mono {s : List Nat} {c : MV} {a : Nat} {t : Tu} {x : AdR} (h : advM σ s c a t = some x) : advM σ' s c a t = some x := by
  obtain ⟨l, e1, h⟩ := bind_some h
  unfold advM
  rw [e1]
  match l, h with
  | [], h => cases h
  | [_], h => cases h
  | _ :: _ :: _ :: _, h => cases h
  | [nd, rest], h =>
  obtain ⟨hr, h⟩ := cond_some h
  obtain ⟨l', e2, h⟩ := bind_some h
  obtain ⟨nd, e3, h⟩ := bind_some h
  simp only [Option.bind_some, hr, cond_true, e2, e3]
  cases nd with
  | en nr b =>
    obtain ⟨key, h1, h⟩ := bind_some h
    show (keyO (at? σ' nr)).bind _ = _
    rw [hk _ _ h1]; exact h
  | _ => exact h
theorem inM_mono {lim : Int} {s : List Nat} : ∀ {f : Nat} {c : MV} {a : Nat} {t : Tu} {x : InR}, inM lim σ s f c a t = some x → inM lim σ' s f c a t = some x
  | 0, _, _, _, _, h => by cases h
  | f + 1, c, a, t, x, h => by
    unfold inM at h ⊢
    cases hc : isNo c with
    | true => rw [hc] at h; exact h
    | false =>
      rw [hc] at h
      cases hl : decide (lim < t.st + 1) with
      | true => rw [hl] at h; cases h
      | false =>
        rw [hl] at h
        obtain ⟨y, e1, h⟩ := bind_some (show Option.bind _ _ = some x from h)
        show Option.bind _ _ = _
        rw [advM_mono hk e1]
        cases y with
        | go c' a' t' => exact inM_mono (f := f) h
        | stop t' => exact h
theorem outM_mono {lim : Int} {s : List Nat} {f : Nat} : ∀ {g : Nat} {t : Tu} {x : OuR}, outM lim σ s f g t = some x → outM lim σ' s f g t = some x
  | 0, _, _, h => by cases h
  | g + 1, t, x, h => by
    unfold outM at h ⊢
    obtain ⟨hl, h⟩ := cond_some h
    rw [hl]
    cases hp : popL t.pl with
    | none => rw [hp] at h; exact h
    | some p =>
      rw [hp] at h
      obtain ⟨wy, e1, h⟩ := bind_some (show Option.bind _ _ = some x from h)
      obtain ⟨y, e2, h⟩ := bind_some h
      show (way3 p.2).bind _ = _
      rw [e1]
      show (inM lim σ' s f wy.1 wy.2 _).bind _ = _
      rw [inM_mono hk e2]
      cases y with
      | done a t' => exact h
      | broke t' => exact outM_mono (g := g) h
end
end Mine

open PySem PySem.W PyProof.Rows PySem.Calls
namespace Mine
set_option autoImplicit false
set_option backward.match.sparseCases false
set_option linter.unusedVariables false
set_option linter.unusedSimpArgs false
set_option linter.unusedSectionVars false
set_option maxRecDepth 100000
set_option maxHeartbeats 4000000
noncomputable def start (node : MV) (b : Nat) : MV := .tup [.tup [node, .none], .int (b : Int), .tup []]
theorem H_self {q : Pl} {lim : Int} {σ : List MO} {t : Tu} (hh : at? σ q.h = some (hostM q.d q.rf q.lg lim t.st)) (hd : at? σ q.d = some (.dict t.kv)) (hl : at? σ q.lg = some (.list t.lo)) : H q lim t σ = σ := by
  have key : ∀ {σ : List MO} {i : Nat} {o : MO}, at? σ i = some o → setAt o σ i = σ := fun {σ i o} h => by
    rw [at?_eq] at h
    rw [setAt_eq]
    obtain ⟨h1, h2⟩ := List.getElem?_eq_some_iff.mp h
    rw [← h2, List.set_getElem_self]
  unfold H
  rw [key hl, key hd, key hh]
theorem newL_one (σ : List MO) (v : MV) : newL σ [v] = some (.ref σ.length, σ ++ [.list [v]]) := rfl
noncomputable def OuR.v (k : Nat) : OuR → MV
  | .found a _ => .tup [.int (a : Int), .ref k]
  | .fail _ => .none
noncomputable def OuR.x : OuR → List MO
  | .found _ t => [.list t.pl, .list []]
  | .fail t => [.list t.pl]
section
variable {q : Pl} {lim : Int} {σ : List MO} (ho : Ho q lim σ) {s : List Nat} (hs : lenOk s.length = true) {node : MV} (hn : okv node = true)
include ho hs hn
theorem tried_ok (hp : q.p = σ.length) {f g n b : Nat} {t : Tu} {x : OuR} (h : outM lim σ s f g { t with pl := [start node b] } = some x) :
    (rB (n + g + f + 200)).call (.fn 16) [node, .str s, .int (b : Int), .ref q.h] (H q lim t σ) = some (x.v (σ.length + 1), H q lim x.t σ ++ x.x) := by
  have w := WD_of (pl := [start node b]) ho hp
  have e := W_H (pl := [start node b]) ho hp { t with pl := [start node b] }
  have h' := outM_mono (σ' := σ ++ [.list [start node b]]) (fun nr key hk => by
    cases hq : at? σ nr with
    | none => rw [hq] at hk; cases hk
    | some o => rw [at?_append (at?_lt hq)]; exact hq ▸ hk) h
  obtain ⟨sl, k⟩ := out_ok w hs node (b : Int) f g (n + 31) none none none none { t with pl := [start node b] } x h'
  rw [show n + 31 + g + f + 165 = n + g + f + 196 by omega, e] at k
  have e2 : H q lim { t with pl := [start node b] } σ = H q lim t σ := rfl
  rw [e2] at k
  have ho2 : outS = (at? db_tried 1).getD (.raw noSt) := rfl
  rw [ho2] at k
  unfold db_tried SO start at k
  simp only [at?_z, at?_s, Option.getD_some, bodyW, testW] at k
  have hlen : (H q lim t σ).length = q.p := by rw [H_len ho, hp]
  rw [c_tried]
  unfold db_tried
  simp only [rB_ss, rB_s, rB_e, rB_es, rB_eo, rB_t, rB_ts, rB_a, rB_as, stepSs, fSs, stepS, fS, stepE, fE, stepEs, fEs, stepEo, stepT, fT, stepTs, fTs, stepA, fA, stepAs, ssN, tsN, tsE, getS, Option.bind_some, Option.bind_none, Option.map_some, cond_true, cond_false, retN, Cst.mv, Nat.beq_refl, wk_str, wk_chr, wk_int, wk_tup, wk_none, wk_ref, wk_bool, wk_wk, endv_ok, lk0, lk1, lk2, lk3, lk4, lk5, lk6, lk7, lk8, bl0, bl1, bl2, bl3, List.map_cons, List.map_nil, List.length_cons, List.length_nil, at?_z, at?_s, setAt_z, setAt_s, r0, asgB, isCst, List.all_cons, List.all_nil, List.any_cons, List.any_nil, asTup, putSl, eSub, subs, nth0, nth1, nth2, eCmp, cmpop, cIs, isNone, okAny, notAny, eBin, binop, bAdd, bII, eSlc, part, cutE, eCall, truth, exB, sEx, eMeth, okBase, mApp, Bool.not_true, Bool.not_false, Bool.and_true, Bool.and_false, Bool.true_and, Bool.false_and, Bool.or_true, Bool.or_false, Bool.true_or, Bool.false_or, newL_one, wk_id hn, hlen, k]
  have e3 := W_H (pl := [start node b]) ho hp x.t
  cases x with
  | found a t' =>
    simp only [rB_ss, rB_s, rB_e, rB_es, rB_eo, rB_t, rB_ts, rB_a, rB_as, stepSs, fSs, stepS, fS, stepE, fE, stepEs, fEs, stepEo, stepT, fT, stepTs, fTs, stepA, fA, stepAs, ssN, tsN, tsE, getS, Option.bind_some, Option.bind_none, Option.map_some, cond_true, cond_false, retN, Cst.mv, Nat.beq_refl, wk_str, wk_chr, wk_int, wk_tup, wk_none, wk_ref, wk_bool, wk_wk, endv_ok, lk0, lk1, lk2, lk3, lk4, lk5, lk6, lk7, lk8, bl0, bl1, bl2, bl3, List.map_cons, List.map_nil, List.length_cons, List.length_nil, at?_z, at?_s, setAt_z, setAt_s, r0, asgB, isCst, List.all_cons, List.all_nil, List.any_cons, List.any_nil, asTup, putSl, eSub, subs, nth0, nth1, nth2, eCmp, cmpop, cIs, isNone, okAny, notAny, eBin, binop, bAdd, bII, eSlc, part, cutE, eCall, truth, exB, sEx, eMeth, okBase, mApp, Bool.not_true, Bool.not_false, Bool.and_true, Bool.and_false, Bool.true_and, Bool.false_and, Bool.or_true, Bool.or_false, Bool.true_or, Bool.false_or]
    rw [show OuR.t (.found a t') = t' from rfl] at e3
    unfold start at e3
    rw [e3]
    show some (MV.tup [.int (a : Int), .ref (σ ++ [MO.list _]).length], _) = some (MV.tup [.int (a : Int), .ref (σ.length + 1)], _ ++ ([MO.list t'.pl] ++ [.list []]))
    rw [List.append_assoc, List.length_append]; rfl
  | fail t' =>
    simp only [rB_ss, rB_s, rB_e, rB_es, rB_eo, rB_t, rB_ts, rB_a, rB_as, stepSs, fSs, stepS, fS, stepE, fE, stepEs, fEs, stepEo, stepT, fT, stepTs, fTs, stepA, fA, stepAs, ssN, tsN, tsE, getS, Option.bind_some, Option.bind_none, Option.map_some, cond_true, cond_false, retN, Cst.mv, Nat.beq_refl, wk_str, wk_chr, wk_int, wk_tup, wk_none, wk_ref, wk_bool, wk_wk, endv_ok, lk0, lk1, lk2, lk3, lk4, lk5, lk6, lk7, lk8, bl0, bl1, bl2, bl3, List.map_cons, List.map_nil, List.length_cons, List.length_nil, at?_z, at?_s, setAt_z, setAt_s, r0, asgB, isCst, List.all_cons, List.all_nil, List.any_cons, List.any_nil, asTup, putSl, eSub, subs, nth0, nth1, nth2, eCmp, cmpop, cIs, isNone, okAny, notAny, eBin, binop, bAdd, bII, eSlc, part, cutE, eCall, truth, exB, sEx, eMeth, okBase, mApp, Bool.not_true, Bool.not_false, Bool.and_true, Bool.and_false, Bool.true_and, Bool.false_and, Bool.or_true, Bool.or_false, Bool.true_or, Bool.false_or]
    rw [show OuR.t (.fail t') = t' from rfl] at e3
    unfold start at e3
    rw [e3]; rfl
noncomputable def OuR.w (b k : Nat) : OuR → MV
  | .found a _ => .tup [.int (b : Int), .int (a : Int), .ref k]
  | .fail _ => .none
theorem match_at_ok (hp : q.p = σ.length) {f g n b : Nat} {t : Tu} {x : OuR} (h : outM lim σ s f g { t with pl := [start node b] } = some x) :
    (rB (n + g + f + 220)).call (.fn 15) [node, .str s, .int (b : Int), .ref q.h] (H q lim t σ) = some (x.w b (σ.length + 1), H q lim x.t σ ++ x.x) := by
  have k := fun n => tried_ok ho hs hn hp (n := n) h
  have k' : ∀ m, (rB (m + (g + f + 200))).call (.fn 16) [node, .str s, .int (b : Int), .ref q.h] (H q lim t σ) = some (x.v (σ.length + 1), H q lim x.t σ ++ x.x) := fun m => by
    have := k m
    rwa [show m + g + f + 200 = m + (g + f + 200) by omega] at this
  rw [show n + g + f + 220 = (n + g + f + 219) + 1 by omega, c_match_at]
  have k3 := k' (n + 16)
  rw [show n + 16 + (g + f + 200) = n + g + f + 216 by omega] at k3
  unfold db_match_at
  cases x with
  | found a t' =>
    simp only [OuR.v] at k3
    simp only [rB_ss, rB_s, rB_e, rB_es, rB_eo, rB_t, rB_ts, rB_a, rB_as, stepSs, fSs, stepS, fS, stepE, fE, stepEs, fEs, stepEo, stepT, fT, stepTs, fTs, stepA, fA, stepAs, ssN, tsN, tsE, getS, Option.bind_some, Option.bind_none, Option.map_some, cond_true, cond_false, retN, Cst.mv, Nat.beq_refl, wk_str, wk_chr, wk_int, wk_tup, wk_none, wk_ref, wk_bool, wk_wk, endv_ok, lk0, lk1, lk2, lk3, lk4, lk5, lk6, lk7, lk8, bl0, bl1, bl2, bl3, List.map_cons, List.map_nil, List.length_cons, List.length_nil, at?_z, at?_s, setAt_z, setAt_s, r0, asgB, isCst, List.all_cons, List.all_nil, List.any_cons, List.any_nil, asTup, putSl, eSub, subs, nth0, nth1, nth2, eCmp, cmpop, cIs, isNone, okAny, notAny, eBin, binop, bAdd, bII, eSlc, part, cutE, eCall, truth, exB, sEx, eMeth, okBase, mApp, Bool.not_true, Bool.not_false, Bool.and_true, Bool.and_false, Bool.true_and, Bool.false_and, Bool.or_true, Bool.or_false, Bool.true_or, Bool.false_or, wk_id hn, k3, lost_ne, OuR.w]
  | fail t' =>
    simp only [OuR.v] at k3
    simp only [rB_ss, rB_s, rB_e, rB_es, rB_eo, rB_t, rB_ts, rB_a, rB_as, stepSs, fSs, stepS, fS, stepE, fE, stepEs, fEs, stepEo, stepT, fT, stepTs, fTs, stepA, fA, stepAs, ssN, tsN, tsE, getS, Option.bind_some, Option.bind_none, Option.map_some, cond_true, cond_false, retN, Cst.mv, Nat.beq_refl, wk_str, wk_chr, wk_int, wk_tup, wk_none, wk_ref, wk_bool, wk_wk, endv_ok, lk0, lk1, lk2, lk3, lk4, lk5, lk6, lk7, lk8, bl0, bl1, bl2, bl3, List.map_cons, List.map_nil, List.length_cons, List.length_nil, at?_z, at?_s, setAt_z, setAt_s, r0, asgB, isCst, List.all_cons, List.all_nil, List.any_cons, List.any_nil, asTup, putSl, eSub, subs, nth0, nth1, nth2, eCmp, cmpop, cIs, isNone, okAny, notAny, eBin, binop, bAdd, bII, eSlc, part, cutE, eCall, truth, exB, sEx, eMeth, okBase, mApp, Bool.not_true, Bool.not_false, Bool.and_true, Bool.and_false, Bool.true_and, Bool.false_and, Bool.or_true, Bool.or_false, Bool.true_or, Bool.false_or, wk_id hn, k3, OuR.w]
end
/-! ## match_plain -/
theorem bRange_nat (k : Nat) (σ : List MO) : bRange σ (.int (k : Int)) = cond (lenOk k) (some (.rng 0 k, σ)) none := rfl
theorem bi_range (v : MV) (σ : List MO) : biCall .range [v] σ = bRange σ v := rfl
theorem add_one (a : Nat) : (a : Int) + 1 = ((a + 1 : Nat) : Int) := rfl
theorem bRange_one (σ : List MO) : bRange σ (.int 1) = some (.rng 0 1, σ) := rfl
theorem It_rng (a k : Nat) (σ : List MO) : It.of σ (.rng a k) = cond (lenOk (a + k)) (some (.rng a k)) none := rfl
noncomputable def forB : S → List S
  | .fr _ _ b _ => b
  | _ => []
noncomputable def forT : S → T
  | .fr t _ _ _ => t
  | _ => .name 0 ⟨0, 0, 0, 0⟩
noncomputable def fS1 : S := (at? db_match_plain 0).getD (.raw noSt)
noncomputable def SP (node : MV) (s : List Nat) (anch : Bool) (h : Nat) (x4 x5 : Option MV) : List Slot :=
  [.loc (some node), .loc (some (.str s)), .loc (some (.bool anch)), .loc (some (.ref h)), .loc x4, .loc x5, .glb (.bi .range), .glb (.bi .len), .glb (.fn 15), .glb (.str [108, 111, 115, 116])]
noncomputable def mpN (q : Pl) (lim : Int) (σ τ : List MO) (b : Nat) (k : Tu → List MO → Option (Option MV × List MO)) : OuR → Option (Option MV × List MO)
  | .found a t => some (some (.tup [.int (b : Int), .int (a : Int), .ref (σ.length + τ.length + 1)]), H q lim t σ ++ (τ ++ [.list t.pl, .list []]))
  | .fail t => k t (τ ++ [.list t.pl])
noncomputable def mpM (q : Pl) (lim : Int) (σ : List MO) (s : List Nat) (f g : Nat) (node : MV) : Nat → Nat → Tu → List MO → Option (Option MV × List MO)
  | 0, _, t, τ => some (none, H q lim t σ ++ τ)
  | k + 1, b, t, τ => (outM lim σ s f g { t with pl := [start node b] }).bind (mpN q lim σ τ b (mpM q lim σ s f g node k (b + 1)))
noncomputable def flOf : Option MV → Fl
  | some v => .ret v
  | none => .next
section
variable {q : Pl} {lim : Int} {σ : List MO} (ho : Ho q lim σ) {s : List Nat} (hs : lenOk s.length = true) {node : MV} (hn : okv node = true)
include ho hs hn
theorem at_ok (τ : List MO) {f g b : Nat} (n : Nat) {t : Tu} {x : OuR} (h : outM lim σ s f g { t with pl := [start node b] } = some x) :
    (rB (n + g + f + 220)).call (.fn 15) [node, .str s, .int (b : Int), .ref q.h] (H q lim t σ ++ τ) = some (x.w b (σ.length + τ.length + 1), H q lim x.t σ ++ (τ ++ x.x)) := by
  have h' := outM_mono (σ' := σ ++ τ) (fun nr key hk => by
    cases hq : at? σ nr with
    | none => rw [hq] at hk; cases hk
    | some o => rw [at?_append (at?_lt hq)]; exact hq ▸ hk) h
  have hq : Ho ⟨q.h, q.d, q.rf, q.lg, (σ ++ τ).length⟩ lim (σ ++ τ) := let z := ho.app τ; ⟨z.h, z.d, z.l, z.r, z.rl⟩
  have k := match_at_ok hq hs hn rfl (n := n) h'
  have e : ∀ t, H ⟨q.h, q.d, q.rf, q.lg, (σ ++ τ).length⟩ lim t (σ ++ τ) = H q lim t σ ++ τ := fun t => H_app ho t τ
  rw [e, e, List.length_append, List.append_assoc] at k
  exact k
theorem body_hit (anch : Bool) (τ : List MO) {f g b : Nat} (n : Nat) {t : Tu} {a : Nat} {t' : Tu} (x5 : Option MV) (h : outM lim σ s f g { t with pl := [start node b] } = some (.found a t')) :
    ∃ sl, (rB (n + g + f + 235)).ss (forB fS1) (SP node s anch q.h (some (.int (b : Int))) x5) (H q lim t σ ++ τ) = some (.ret (.tup [.int (b : Int), .int (a : Int), .ref (σ.length + τ.length + 1)]), sl, H q lim t' σ ++ (τ ++ [.list t'.pl, .list []])) := by
  have k := at_ok ho hs hn τ (n + 12) h
  rw [show n + 12 + g + f + 220 = n + g + f + 232 by omega] at k
  refine ⟨SP node s anch q.h (some (.int (b : Int))) (some (.tup [.int (b : Int), .int (a : Int), .ref (σ.length + τ.length + 1)])), ?_⟩
  show (rB (n + g + f + 235)).ss (forB ((at? db_match_plain 0).getD (.raw noSt))) _ _ = _
  unfold db_match_plain SP
  simp only [OuR.w, OuR.t, OuR.x] at k
  simp only [rB_ss, rB_s, rB_e, rB_es, rB_eo, rB_t, rB_ts, rB_a, rB_as, stepSs, fSs, stepS, fS, stepE, fE, stepEs, fEs, stepEo, stepT, fT, stepTs, fTs, stepA, fA, stepAs, ssN, tsN, tsE, getS, Option.bind_some, Option.bind_none, Option.map_some, cond_true, cond_false, retN, Cst.mv, Nat.beq_refl, wk_str, wk_chr, wk_int, wk_tup, wk_none, wk_ref, wk_bool, wk_wk, endv_ok, lk0, lk1, lk2, lk3, lk4, lk5, lk6, lk7, lk8, bl0, bl1, bl2, bl3, List.map_cons, List.map_nil, List.length_cons, List.length_nil, at?_z, at?_s, setAt_z, setAt_s, r0, asgB, isCst, List.all_cons, List.all_nil, List.any_cons, List.any_nil, asTup, putSl, eSub, subs, nth0, nth1, nth2, eCmp, cmpop, cIs, isNone, okAny, notAny, eBin, binop, bAdd, bII, eSlc, part, cutE, eCall, truth, exB, sEx, eMeth, okBase, mApp, Bool.not_true, Bool.not_false, Bool.and_true, Bool.and_false, Bool.true_and, Bool.false_and, Bool.or_true, Bool.or_false, Bool.true_or, Bool.false_or, Option.getD_some, forB, wk_id hn, k, lost_ne]
theorem body_miss (anch : Bool) (τ : List MO) {f g b : Nat} (n : Nat) {t : Tu} {t' : Tu} (x5 : Option MV) (h : outM lim σ s f g { t with pl := [start node b] } = some (.fail t')) :
    (rB (n + g + f + 235)).ss (forB fS1) (SP node s anch q.h (some (.int (b : Int))) x5) (H q lim t σ ++ τ) = some (.next, SP node s anch q.h (some (.int (b : Int))) (some .none), H q lim t' σ ++ (τ ++ [.list t'.pl])) := by
  have k := at_ok ho hs hn τ (n + 12) h
  rw [show n + 12 + g + f + 220 = n + g + f + 232 by omega] at k
  show (rB (n + g + f + 235)).ss (forB ((at? db_match_plain 0).getD (.raw noSt))) _ _ = _
  unfold db_match_plain SP
  simp only [OuR.w, OuR.t, OuR.x] at k
  simp only [rB_ss, rB_s, rB_e, rB_es, rB_eo, rB_t, rB_ts, rB_a, rB_as, stepSs, fSs, stepS, fS, stepE, fE, stepEs, fEs, stepEo, stepT, fT, stepTs, fTs, stepA, fA, stepAs, ssN, tsN, tsE, getS, Option.bind_some, Option.bind_none, Option.map_some, cond_true, cond_false, retN, Cst.mv, Nat.beq_refl, wk_str, wk_chr, wk_int, wk_tup, wk_none, wk_ref, wk_bool, wk_wk, endv_ok, lk0, lk1, lk2, lk3, lk4, lk5, lk6, lk7, lk8, bl0, bl1, bl2, bl3, List.map_cons, List.map_nil, List.length_cons, List.length_nil, at?_z, at?_s, setAt_z, setAt_s, r0, asgB, isCst, List.all_cons, List.all_nil, List.any_cons, List.any_nil, asTup, putSl, eSub, subs, nth0, nth1, nth2, eCmp, cmpop, cIs, isNone, okAny, notAny, eBin, binop, bAdd, bII, eSlc, part, cutE, eCall, truth, exB, sEx, eMeth, okBase, mApp, Bool.not_true, Bool.not_false, Bool.and_true, Bool.and_false, Bool.true_and, Bool.false_and, Bool.or_true, Bool.or_false, Bool.true_or, Bool.false_or, Option.getD_some, forB, wk_id hn, k]
theorem mp_loop (anch : Bool) (f g : Nat) : ∀ (k b n : Nat) (t : Tu) (τ : List MO) (x4 x5 : Option MV) (r : Option MV × List MO), mpM q lim σ s f g node k b t τ = some r →
    ∃ sl, (rB (n + k + g + f + 240)).fr (forT fS1) (.rng b k) (forB fS1) (SP node s anch q.h x4 x5) (H q lim t σ ++ τ) = some (flOf r.1, sl, r.2)
  | 0, b, n, t, τ, x4, x5, r, h => by cases h; exact ⟨_, rfl⟩
  | k + 1, b, n, t, τ, x4, x5, r, h => by
    obtain ⟨y, e1, h⟩ := bind_some (show Option.bind _ _ = some r from h)
    rw [show n + (k + 1) + g + f + 240 = (n + k + g + f + 240) + 1 by omega]
    have e0 : (rB ((n + k + g + f + 240) + 1)).fr (forT fS1) (.rng b (k + 1)) (forB fS1) (SP node s anch q.h x4 x5) (H q lim t σ ++ τ) =
        ((rB (n + k + g + f + 240)).ss (forB fS1) (SP node s anch q.h (some (.int (b : Int))) x5) (H q lim t σ ++ τ)).bind (frN (rB (n + k + g + f + 240)) (forT fS1) (.rng (b + 1) k) (forB fS1)) := rfl
    rw [e0]
    cases y with
    | found a t' =>
      obtain ⟨sl, e⟩ := body_hit ho hs hn anch τ (n + k + 5) x5 e1
      rw [show n + k + 5 + g + f + 235 = n + k + g + f + 240 by omega] at e
      cases h
      exact ⟨sl, by rw [e]; rfl⟩
    | fail t' =>
      have e := body_miss ho hs hn anch τ (n + k + 5) x5 e1
      rw [show n + k + 5 + g + f + 235 = n + k + g + f + 240 by omega] at e
      rw [e]
      exact mp_loop anch f g k (b + 1) n t' (τ ++ [MO.list t'.pl]) _ _ r (show mpM q lim σ s f g node k (b + 1) t' (τ ++ [MO.list t'.pl]) = some r from h)
theorem match_plain_ok (anch : Bool) {f g : Nat} {t : Tu} {r : Option MV × List MO} (h : mpM q lim σ s f g node (cond anch 1 (s.length + 1)) 0 t [] = some r) (hl : lenOk (s.length + 1) = true) (n : Nat) :
    (rB (n + (cond anch 1 (s.length + 1)) + g + f + 260)).call (.fn 14) [node, .str s, .bool anch, .ref q.h] (H q lim t σ) = some (r.1.getD .none, r.2) := by
  obtain ⟨sl, k⟩ := mp_loop ho hs hn anch f g (cond anch 1 (s.length + 1)) 0 (n + 17) t [] none none r h
  rw [List.append_nil, show n + 17 + (cond anch 1 (s.length + 1)) + g + f + 240 = n + (cond anch 1 (s.length + 1)) + g + f + 257 by omega] at k
  have hf : fS1 = (at? db_match_plain 0).getD (.raw noSt) := rfl
  rw [hf] at k
  unfold db_match_plain SP at k
  simp only [at?_z, Option.getD_some, forB, forT] at k
  rw [c_match_plain]
  unfold db_match_plain
  have w1 : ∀ v : MV, (MV.bool anch).wk = .bool anch := fun _ => rfl
  have w2 : ∀ a k : Nat, (MV.rng a k).wk = .rng a k := fun _ _ => rfl
  have hl' : lenOk (0 + (s.length + 1)) = true := by rw [Nat.zero_add]; exact hl
  obtain ⟨r1, r2⟩ := r
  cases anch with
  | true =>
    simp only [cond_true] at k
    cases r1 <;>
    simp only [rB_ss, rB_s, rB_e, rB_es, rB_eo, rB_t, rB_ts, rB_a, rB_as, stepSs, fSs, stepS, fS, stepE, fE, stepEs, fEs, stepEo, stepT, fT, stepTs, fTs, stepA, fA, stepAs, ssN, tsN, tsE, getS, Option.bind_some, Option.bind_none, Option.map_some, cond_true, cond_false, retN, Cst.mv, Nat.beq_refl, wk_str, wk_chr, wk_int, wk_tup, wk_none, wk_ref, wk_bool, wk_wk, endv_ok, lk0, lk1, lk2, lk3, lk4, lk5, lk6, lk7, lk8, bl0, bl1, bl2, bl3, List.map_cons, List.map_nil, List.length_cons, List.length_nil, at?_z, at?_s, setAt_z, setAt_s, r0, asgB, isCst, List.all_cons, List.all_nil, List.any_cons, List.any_nil, asTup, putSl, eSub, subs, nth0, nth1, nth2, eCmp, cmpop, cIs, isNone, okAny, notAny, eBin, binop, bAdd, bII, eSlc, part, cutE, eCall, truth, exB, sEx, eMeth, okBase, mApp, Bool.not_true, Bool.not_false, Bool.and_true, Bool.and_false, Bool.true_and, Bool.false_and, Bool.or_true, Bool.or_false, Bool.true_or, Bool.false_or, srcG, call_bi, bi_range, bRange_one, w2, It_rng, show lenOk (0 + 1) = true from rfl, k, flOf, Option.getD_some, Option.getD_none]
  | false =>
    simp only [cond_false] at k
    cases r1 <;>
    simp only [rB_ss, rB_s, rB_e, rB_es, rB_eo, rB_t, rB_ts, rB_a, rB_as, stepSs, fSs, stepS, fS, stepE, fE, stepEs, fEs, stepEo, stepT, fT, stepTs, fTs, stepA, fA, stepAs, ssN, tsN, tsE, getS, Option.bind_some, Option.bind_none, Option.map_some, cond_true, cond_false, retN, Cst.mv, Nat.beq_refl, wk_str, wk_chr, wk_int, wk_tup, wk_none, wk_ref, wk_bool, wk_wk, endv_ok, lk0, lk1, lk2, lk3, lk4, lk5, lk6, lk7, lk8, bl0, bl1, bl2, bl3, List.map_cons, List.map_nil, List.length_cons, List.length_nil, at?_z, at?_s, setAt_z, setAt_s, r0, asgB, isCst, List.all_cons, List.all_nil, List.any_cons, List.any_nil, asTup, putSl, eSub, subs, nth0, nth1, nth2, eCmp, cmpop, cIs, isNone, okAny, notAny, eBin, binop, bAdd, bII, eSlc, part, cutE, eCall, truth, exB, sEx, eMeth, okBase, mApp, Bool.not_true, Bool.not_false, Bool.and_true, Bool.and_false, Bool.true_and, Bool.false_and, Bool.or_true, Bool.or_false, Bool.true_or, Bool.false_or, srcG, call_bi, bLen_str hs, add_one, bi_range, bRange_nat, hl, hl', w2, It_rng, k, flOf, Option.getD_some, Option.getD_none]
end
end Mine

open PySem PySem.W PyProof.Rows PySem.Calls
namespace Mine
set_option autoImplicit false
set_option backward.match.sparseCases false
set_option linter.unusedVariables false
set_option maxRecDepth 100000
noncomputable def intM : MV → Option Int
  | .int i => some i
  | _ => none
noncomputable def boolM : MV → Option Bool
  | .bool i => some i
  | _ => none
theorem intM_ok {v : MV} {l : Int} (h : intM v = some l) : v = .int l := by cases v <;> first | (cases h; done) | (cases h; rfl)
theorem boolM_ok {v : MV} {l : Bool} (h : boolM v = some l) : v = .bool l := by cases v <;> first | (cases h; done) | (cases h; rfl)
noncomputable def listO : Option MO → Option (List MV)
  | some (.list l) => some l
  | _ => none
noncomputable def dictO : Option MO → Option (List (List Nat × MV))
  | some (.dict l) => some l
  | _ => none
noncomputable def instO : Option MO → Option (Nat × List (Nat × MV))
  | some (.inst k l) => some (k, l)
  | _ => none
theorem listO_ok {o : Option MO} {l : List MV} (h : listO o = some l) : o = some (.list l) := by
  cases o with
  | none => cases h
  | some o => cases o <;> first | (cases h; done) | (cases h; rfl)
theorem dictO_ok {o : Option MO} {l : List (List Nat × MV)} (h : dictO o = some l) : o = some (.dict l) := by
  cases o with
  | none => cases h
  | some o => cases o <;> first | (cases h; done) | (cases h; rfl)
theorem instO_ok {o : Option MO} {l : Nat × List (Nat × MV)} (h : instO o = some l) : o = some (.inst l.1 l.2) := by
  cases o with
  | none => cases h
  | some o => cases o <;> first | (cases h; done) | (cases h; rfl)
structure HR where
  d : Nat
  lim : Int
  rf : Nat
  st : Int
  lg : Nat
noncomputable def keysB (ks : List Nat) (ats : List (Nat × MV)) : Bool := eqL (ats.map (·.1)) ks
noncomputable def hostL (ats : List (Nat × MV)) : Option HR := match ats with
  | [a, b, c, w, e, f] => (refM a.2).bind fun d => (intM b.2).bind fun lim => (refM c.2).bind fun rf => (natM w.2).bind fun w => (intM e.2).bind fun st => (refM f.2).bind fun lg => cond (Nat.beq w 64) (some ⟨d, lim, rf, st, lg⟩) none
  | _ => none
noncomputable def hostO (o : Option MO) : Option HR := (instO o).bind fun p => cond (Nat.beq p.1 1 && keysB [0, 1, 2, 3, 4, 5] p.2) (hostL p.2) none
theorem hostL_ok {ats : List (Nat × MV)} {r : HR} (h3 : ats.map (·.1) = [0, 1, 2, 3, 4, 5]) (h0 : hostL ats = some r) : MO.inst 1 ats = hostM r.d r.rf r.lg r.lim r.st := by
  match ats, h3, h0 with
  | [], h3, h => cases h
  | [_], h3, h => cases h
  | [_, _], h3, h => cases h
  | [_, _, _], h3, h => cases h
  | [_, _, _, _], h3, h => cases h
  | [_, _, _, _, _], h3, h => cases h
  | _ :: _ :: _ :: _ :: _ :: _ :: _ :: _, h3, h => cases h
  | [(a, va), (b, vb), (c, vc), (w, vw), (e, ve), (f, vf)], h3, h =>
  simp only [List.map_cons, List.map_nil, List.cons.injEq, and_true] at h3
  obtain ⟨rfl, rfl, rfl, rfl, rfl, rfl⟩ := h3
  obtain ⟨d, g1, h⟩ := bind_some h
  obtain ⟨lim, g2, h⟩ := bind_some h
  obtain ⟨rf, g3, h⟩ := bind_some h
  obtain ⟨w, g4, h⟩ := bind_some h
  obtain ⟨st, g5, h⟩ := bind_some h
  obtain ⟨lg, g6, h⟩ := bind_some h
  obtain ⟨g7, h⟩ := cond_some h
  cases h
  simp only at g1 g2 g3 g4 g5 g6
  rw [refM_ok g1, intM_ok g2, refM_ok g3, natM_ok g4, intM_ok g5, refM_ok g6, Nat.eq_of_beq_eq_true g7]; rfl
theorem hostO_ok {o : Option MO} {r : HR} (h : hostO o = some r) : o = some (hostM r.d r.rf r.lg r.lim r.st) := by
  obtain ⟨⟨k, ats⟩, e1, g⟩ := bind_some h
  rw [instO_ok e1]
  obtain ⟨h1, g'⟩ := cond_some g
  obtain ⟨h2, h3⟩ := Bool.and_eq_true_iff.mp h1
  obtain rfl : k = 1 := Nat.eq_of_beq_eq_true h2
  rw [← hostL_ok (eqL_to h3) g']
noncomputable def isNilL : List MV → Bool
  | [] => true
  | _ => false
noncomputable def mp4 (σ : List MO) : List MV → Option ((MV × List MO) × Nat)
  | [node, s, an, h] => (strM s).bind fun s => (boolM an).bind fun an => (refM h).bind fun h => (hostO (at? σ h)).bind fun r => (dictO (at? σ r.d)).bind fun kv => (listO (at? σ r.lg)).bind fun lo => (listO (at? σ r.rf)).bind fun rf =>
    cond (isNilL rf && !Nat.beq r.rf r.lg && okv node && lenOk s.length && lenOk (s.length + 1)) ((mpM ⟨h, r.d, r.rf, r.lg, 0⟩ r.lim σ s 16 12 node (cond an 1 (s.length + 1)) 0 ⟨r.st, kv, lo, []⟩ []).bind fun x => some ((x.1.getD .none, x.2), 0 + (cond an 1 (s.length + 1)) + 12 + 16 + 260)) none
  | _ => none
theorem mp4_ok {σ : List MO} {as : List MV} {p : (MV × List MO) × Nat} (h : mp4 σ as = some p) : (rB p.2).call (.fn 14) as σ = some p.1 := by
  match as, h with
  | [], h => cases h
  | [_], h => cases h
  | [_, _], h => cases h
  | [_, _, _], h => cases h
  | _ :: _ :: _ :: _ :: _ :: _, h => cases h
  | [node, s, an, h'], h =>
  obtain ⟨s', g1, h⟩ := bind_some (show Option.bind _ _ = _ from h)
  obtain ⟨an', g2, h⟩ := bind_some h
  obtain ⟨hh, g3, h⟩ := bind_some h
  obtain ⟨r, g4, h⟩ := bind_some h
  obtain ⟨kv, g5, h⟩ := bind_some h
  obtain ⟨lo, g6, h⟩ := bind_some h
  obtain ⟨rf, g7, h⟩ := bind_some h
  obtain ⟨g8, h⟩ := cond_some h
  obtain ⟨x, g9, h⟩ := bind_some h
  cases h
  simp only [Bool.and_eq_true, Bool.not_eq_true'] at g8
  obtain ⟨⟨⟨⟨q1, q2⟩, q3⟩, q4⟩, q5⟩ := g8
  have e4 := hostO_ok g4
  have e5 := dictO_ok g5
  have e6 := listO_ok g6
  have e7 := listO_ok g7
  have hrf : rf = [] := by
    cases rf with
    | nil => rfl
    | cons _ _ => cases q1
  subst hrf
  have ho : Ho ⟨hh, r.d, r.rf, r.lg, 0⟩ r.lim σ := ⟨⟨_, e4⟩, ⟨_, e5⟩, ⟨_, e6⟩, e7, fun e => by
    have e : r.rf = r.lg := e
    rw [e, Nat.beq_refl] at q2; cases q2⟩
  have k := match_plain_ok ho q4 q3 an' g9 q5 0
  rw [H_self e4 e5 e6] at k
  rw [strM_ok g1, boolM_ok g2, refM_ok g3]
  exact k
noncomputable abbrev Memo := Nat → List MV → List MO → Option ((MV × List MO) × Nat)
noncomputable def mmP : Memo := fun k as σ => cond (Nat.beq k 14) (mp4 σ as) none
theorem noM_ok {G : St} : MemoOk G noM := fun _ _ _ _ h => by cases h
theorem mmP_ok {G : St} (Z : Static G dFT dCT dGV) : MemoOk G mmP := fun k as σ p h => by
  obtain ⟨h1, h⟩ := cond_some h
  obtain rfl := Nat.eq_of_beq_eq_true h1
  have e := mp4_ok h
  refine ⟨?_, ?_⟩
  · obtain ⟨fn, ef⟩ := Option.isSome_iff_exists.mp (show (at? dFT 14).isSome = true by decide +kernel)
    obtain ⟨_, _, _, _, _, _, _, _, _, _, hf⟩ := Z.fn 14 fn ef
    exact hf.keep
  · intro A env h₀ L m N ρ s vs H I hvs P q
    obtain ⟨⟨pv, pσ⟩, pn⟩ := p
    exact (sound_run Z noM_ok pn).callF H I hvs e P q
end Mine

open PySem PySem.W PyProof.Rows PySem.Calls
namespace Mine
set_option autoImplicit false
set_option backward.match.sparseCases false
set_option linter.unusedVariables false
set_option linter.unusedSimpArgs false
set_option maxRecDepth 100000
set_option maxHeartbeats 4000000
noncomputable def rM (n : Nat) : Rec := run dFT dCT dGV mmP n
theorem rM_n : ∀ n : Nat, (rM n).n = n
  | 0 => rfl
  | n + 1 => congrArg (· + 1) (rM_n n)
theorem rM_e (n : Nat) : (rM (n + 1)).e = stepE dCT dGV (rM n) := rfl
theorem rM_es (n : Nat) : (rM (n + 1)).es = stepEs (rM n) := rfl
theorem rM_eo (n : Nat) : (rM (n + 1)).eo = stepEo (rM n) := rfl
theorem rM_t (n : Nat) : (rM (n + 1)).t = stepT (rM n) := rfl
theorem rM_ts (n : Nat) : (rM (n + 1)).ts = stepTs (rM n) := rfl
theorem rM_a (n : Nat) : (rM (n + 1)).a = stepA dCT (rM n) := rfl
theorem rM_as (n : Nat) : (rM (n + 1)).as = stepAs (rM n) := rfl
theorem rM_s (n : Nat) : (rM (n + 1)).s = stepS dCT (rM n) := rfl
theorem rM_ss (n : Nat) : (rM (n + 1)).ss = stepSs (rM n) := rfl
theorem rM_fr (n : Nat) : (rM (n + 1)).fr = stepFr (rM n) := rfl
theorem cM_replace (n : Nat) (v0 v1 v2 v3 v4 v5 : MV) (σ : List MO) : (rM (n + 1)).call (.fn 3) [v0, v1, v2, v3, v4, v5] σ = ((rM n).ss db_replace_once [.loc (some v0), .loc (some v1), .loc (some v2), .loc (some v3), .loc (some v4), .loc (some v5), .loc none, .loc none, .glb (.fn 0), .glb (.fn 2)] σ).bind retN := rfl
theorem cM_give (n : Nat) (v0 v1 : MV) (σ : List MO) : (rM (n + 1)).call (.fn 0) [v0, v1] σ = ((rM n).ss db_give_names [.loc (some v0), .loc (some v1), .loc none, .loc none] σ).bind retN := rfl
theorem cM_three (n : Nat) (v0 v1 : MV) (σ : List MO) : (rM (n + 1)).call (.fn 1) [v0, v1] σ = ((rM n).ss db_three_pieces [.loc (some v0), .loc (some v1)] σ).bind retN := rfl
theorem cM_spliced (n : Nat) (v0 v1 v2 : MV) (σ : List MO) : (rM (n + 1)).call (.fn 2) [v0, v1, v2] σ = ((rM n).ss db_spliced [.loc (some v0), .loc (some v1), .loc (some v2), .loc none, .loc none, .loc none, .glb (.fn 1)] σ).bind retN := rfl
theorem m_give (n : Nat) {b a : Int} {j : Nat} {v : MV} {σ : List MO} (hj : at? σ j = some (.list [])) : (rM (n + 12)).call (.fn 0) [.tup [.int b, .int a, .ref j], v] σ = some (.none, σ) := by
  rw [cM_give]
  unfold db_give_names
  simp only [rM_ss, rM_s, rM_e, rM_es, rM_eo, rM_t, rM_ts, rM_a, rM_as, stepSs, fSs, stepS, fS, stepE, fE, stepEs, fEs, stepEo, stepT, fT, stepTs, fTs, stepA, fA, stepAs, ssN, tsN, tsE, getS, Option.bind_some, Option.bind_none, Option.map_some, cond_true, cond_false, retN, Cst.mv, Nat.beq_refl, wk_str, wk_chr, wk_int, wk_tup, wk_none, wk_ref, wk_bool, wk_wk, endv_ok, lk0, lk1, lk2, lk3, lk4, lk5, lk6, lk7, lk8, bl0, bl1, bl2, bl3, List.map_cons, List.map_nil, List.length_cons, List.length_nil, at?_z, at?_s, setAt_z, setAt_s, r0, asgB, isCst, List.all_cons, List.all_nil, List.any_cons, List.any_nil, asTup, putSl, eSub, subs, nth0, nth1, nth2, eCmp, cmpop, cIs, isNone, okAny, notAny, eBin, binop, bAdd, bII, eSlc, part, cutE, eCall, truth, exB, sEx, eMeth, okBase, mApp, Bool.not_true, Bool.not_false, Bool.and_true, Bool.and_false, Bool.true_and, Bool.false_and, Bool.or_true, Bool.or_false, Bool.true_or, Bool.false_or, srcG, It.of, hj, itR, rM_fr, stepFr, It.next, nextR, (show at? ([] : List MV) 0 = none from rfl), frG]
theorem m_three (n : Nat) {b a : Nat} {x : MV} {s : List Nat} {σ : List MO} (hs : lenOk s.length = true) : (rM (n + 12)).call (.fn 1) [.str s, .tup [.int (b : Int), .int (a : Int), x]] σ = some (.tup [.str (cut s none (some b)), .str (cut s (some b) (some a)), .str (cut s (some a) none)], σ) := by
  rw [cM_three]
  unfold db_three_pieces
  simp only [rM_ss, rM_s, rM_e, rM_es, rM_eo, rM_t, rM_ts, rM_a, rM_as, stepSs, fSs, stepS, fS, stepE, fE, stepEs, fEs, stepEo, stepT, fT, stepTs, fTs, stepA, fA, stepAs, ssN, tsN, tsE, getS, Option.bind_some, Option.bind_none, Option.map_some, cond_true, cond_false, retN, Cst.mv, Nat.beq_refl, wk_str, wk_chr, wk_int, wk_tup, wk_none, wk_ref, wk_bool, wk_wk, endv_ok, lk0, lk1, lk2, lk3, lk4, lk5, lk6, lk7, lk8, bl0, bl1, bl2, bl3, List.map_cons, List.map_nil, List.length_cons, List.length_nil, at?_z, at?_s, setAt_z, setAt_s, r0, asgB, isCst, List.all_cons, List.all_nil, List.any_cons, List.any_nil, asTup, putSl, eSub, subs, nth0, nth1, nth2, eCmp, cmpop, cIs, isNone, okAny, notAny, eBin, binop, bAdd, bII, eSlc, part, cutE, eCall, truth, exB, sEx, eMeth, okBase, mApp, Bool.not_true, Bool.not_false, Bool.and_true, Bool.and_false, Bool.true_and, Bool.false_and, Bool.or_true, Bool.or_false, Bool.true_or, Bool.false_or, hs, part_nat, part_none]
theorem m_spliced (n : Nat) {b a : Nat} {x : MV} {s : List Nat} {σ : List MO} (hs : lenOk s.length = true) (h1 : lenOk ((cut s none (some b)).length + 0) = true) (h2 : lenOk ((cut s none (some b) ++ []).length + (cut s (some a) none).length) = true) :
    (rM (n + 20)).call (.fn 2) [.str s, .tup [.int (b : Int), .int (a : Int), x], .str []] σ = some (.str (cut s none (some b) ++ [] ++ cut s (some a) none), σ) := by
  rw [cM_spliced]
  unfold db_spliced
  simp only [rM_ss, rM_s, rM_e, rM_es, rM_eo, rM_t, rM_ts, rM_a, rM_as, stepSs, fSs, stepS, fS, stepE, fE, stepEs, fEs, stepEo, stepT, fT, stepTs, fTs, stepA, fA, stepAs, ssN, tsN, tsE, getS, Option.bind_some, Option.bind_none, Option.map_some, cond_true, cond_false, retN, Cst.mv, Nat.beq_refl, wk_str, wk_chr, wk_int, wk_tup, wk_none, wk_ref, wk_bool, wk_wk, endv_ok, lk0, lk1, lk2, lk3, lk4, lk5, lk6, lk7, lk8, bl0, bl1, bl2, bl3, List.map_cons, List.map_nil, List.length_cons, List.length_nil, at?_z, at?_s, setAt_z, setAt_s, r0, asgB, isCst, List.all_cons, List.all_nil, List.any_cons, List.any_nil, asTup, putSl, eSub, subs, nth0, nth1, nth2, eCmp, cmpop, cIs, isNone, okAny, notAny, eBin, binop, bAdd, bII, eSlc, part, cutE, eCall, truth, exB, sEx, eMeth, okBase, mApp, Bool.not_true, Bool.not_false, Bool.and_true, Bool.and_false, Bool.true_and, Bool.false_and, Bool.or_true, Bool.or_false, Bool.true_or, Bool.false_or, m_three _ hs, h1, h2]
theorem m_match (n k : Nat) {as : List MV} {σ : List MO} {p : (MV × List MO) × Nat} (h : mp4 σ as = some p) : (rM (n + p.2 + k + 1)).call (.fn 14) as σ = some p.1 := by
  have e : (rM (n + p.2 + k + 1)).call (.fn 14) as σ = callK dFT (rM (n + p.2 + k)) 14 as σ (mp4 σ as) := rfl
  rw [e, h]
  show cond (Nat.ble p.2 (rM (n + p.2 + k)).n) (some p.1) none = _
  rw [rM_n, Nat.ble_eq_true_of_le (by omega)]; rfl
theorem wk_any : MV.any.wk = .any := rfl
theorem wk_emp : MV.emp.wk = .str [] := rfl
theorem m_lam (n k : Nat) {q : Cst × Nat × Pos} {v : MV} {σ : List MO} (h : lamOf k = some q) : (rM (n + 1)).call (.lam k) [v] σ = some (q.1.mv, σ) := by
  show (lamOf k).bind _ = _; rw [h]; rfl
theorem mp_host {σ : List MO} {h : Nat} {r : HR} (e : hostO (at? σ h) = some r) : attrE dCT σ 18 (.ref h) = some (.any, σ) := by
  show attrB dCT σ 18 (at? σ h) = _
  rw [hostO_ok e]; rfl
noncomputable def isNilO : Option MO → Bool
  | some (.list []) => true
  | _ => false
theorem isNilO_ok {o : Option MO} (h : isNilO o = true) : o = some (.list []) := by
  unfold isNilO at h
  split at h
  · rfl
  · cases h
noncomputable def isEmpC : Option (Cst × Nat × Pos) → Bool
  | some (.emp, _, _) => true
  | _ => false
noncomputable def repT (s : List Nat) (h : Nat) (p : (MV × List MO) × Nat) : List MV → Option ((MV × List MO) × Nat)
  | [.int (.ofNat b), .int (.ofNat a), .ref j] => (hostO (at? p.1.2 h)).bind fun _ => cond (isNilO (at? p.1.2 j) && lenOk s.length && lenOk ((cut s none (some b)).length + 0) && lenOk ((cut s none (some b) ++ []).length + (cut s (some a) none).length))
      (some ((.str (cut s none (some b) ++ [] ++ cut s (some a) none), p.1.2), p.2 + 30)) none
  | _ => none
noncomputable def repV (s : List Nat) (h : Nat) (p : (MV × List MO) × Nat) : MV → Option ((MV × List MO) × Nat)
  | .none => some ((.none, p.1.2), p.2 + 30)
  | .tup vs => repT s h p vs
  | _ => none
noncomputable def repM (σ : List MO) : List MV → Option ((MV × List MO) × Nat)
  | [.fn f, node, .str s, .bool an, .ref h, .lam k] => cond (Nat.beq f 14 && isEmpC (lamOf k) && okv node) ((mp4 σ [node, .str s, .bool an, .ref h]).bind fun p => repV s h p p.1.1) none
  | _ => none
theorem m_rep0 {σ σ' : List MO} {node : MV} {s : List Nat} {an : Bool} {h k m : Nat} (hn : okv node = true) (h1 : mp4 σ [node, .str s, .bool an, .ref h] = some ((.none, σ'), m)) :
    (rM (m + 30)).call (.fn 3) [.fn 14, node, .str s, .bool an, .ref h, .lam k] σ = some (.none, σ') := by
  have e : ∀ j, (rM (m + j + 1)).call (.fn 14) [node, .str s, .bool an, .ref h] σ = some (.none, σ') := fun j => by have := m_match 0 j h1; rwa [Nat.zero_add] at this
  rw [cM_replace]
  unfold db_replace_once
  simp only [rM_ss, rM_s, rM_e, rM_es, rM_eo, rM_t, rM_ts, rM_a, rM_as, stepSs, fSs, stepS, fS, stepE, fE, stepEs, fEs, stepEo, stepT, fT, stepTs, fTs, stepA, fA, stepAs, ssN, tsN, tsE, getS, Option.bind_some, Option.bind_none, Option.map_some, cond_true, cond_false, retN, Cst.mv, Nat.beq_refl, wk_str, wk_chr, wk_int, wk_tup, wk_none, wk_ref, wk_bool, wk_wk, endv_ok, lk0, lk1, lk2, lk3, lk4, lk5, lk6, lk7, lk8, bl0, bl1, bl2, bl3, List.map_cons, List.map_nil, List.length_cons, List.length_nil, at?_z, at?_s, setAt_z, setAt_s, r0, asgB, isCst, List.all_cons, List.all_nil, List.any_cons, List.any_nil, asTup, putSl, eSub, subs, nth0, nth1, nth2, eCmp, cmpop, cIs, isNone, okAny, notAny, eBin, binop, bAdd, bII, eSlc, part, cutE, eCall, truth, exB, sEx, eMeth, okBase, mApp, Bool.not_true, Bool.not_false, Bool.and_true, Bool.and_false, Bool.true_and, Bool.false_and, Bool.or_true, Bool.or_false, Bool.true_or, Bool.false_or, wk_id hn, e]
theorem m_rep1 {σ σ' : List MO} {node : MV} {s : List Nat} {an : Bool} {h k m a b j : Nat} {r : HR} {q : Nat × Pos} (hk : lamOf k = some (.emp, q)) (hn : okv node = true) (h1 : mp4 σ [node, .str s, .bool an, .ref h] = some ((.tup [.int (b : Int), .int (a : Int), .ref j], σ'), m))
    (h2 : hostO (at? σ' h) = some r) (h3 : at? σ' j = some (.list [])) (h4 : lenOk s.length = true) (h5 : lenOk ((cut s none (some b)).length + 0) = true) (h6 : lenOk ((cut s none (some b) ++ []).length + (cut s (some a) none).length) = true) :
    (rM (m + 30)).call (.fn 3) [.fn 14, node, .str s, .bool an, .ref h, .lam k] σ = some (.str (cut s none (some b) ++ [] ++ cut s (some a) none), σ') := by
  have e : ∀ j', (rM (m + j' + 1)).call (.fn 14) [node, .str s, .bool an, .ref h] σ = some (.tup [.int (b : Int), .int (a : Int), .ref j], σ') := fun j => by have := m_match 0 j h1; rwa [Nat.zero_add] at this
  have e2 : ∀ n v, (rM (n + 1)).call (.lam k) [v] σ' = some (.emp, σ') := fun n v => m_lam n k hk
  rw [cM_replace]
  unfold db_replace_once
  simp only [rM_ss, rM_s, rM_e, rM_es, rM_eo, rM_t, rM_ts, rM_a, rM_as, stepSs, fSs, stepS, fS, stepE, fE, stepEs, fEs, stepEo, stepT, fT, stepTs, fTs, stepA, fA, stepAs, ssN, tsN, tsE, getS, Option.bind_some, Option.bind_none, Option.map_some, cond_true, cond_false, retN, Cst.mv, Nat.beq_refl, wk_str, wk_chr, wk_int, wk_tup, wk_none, wk_ref, wk_bool, wk_wk, endv_ok, lk0, lk1, lk2, lk3, lk4, lk5, lk6, lk7, lk8, bl0, bl1, bl2, bl3, List.map_cons, List.map_nil, List.length_cons, List.length_nil, at?_z, at?_s, setAt_z, setAt_s, r0, asgB, isCst, List.all_cons, List.all_nil, List.any_cons, List.any_nil, asTup, putSl, eSub, subs, nth0, nth1, nth2, eCmp, cmpop, cIs, isNone, okAny, notAny, eBin, binop, bAdd, bII, eSlc, part, cutE, eCall, truth, exB, sEx, eMeth, okBase, mApp, Bool.not_true, Bool.not_false, Bool.and_true, Bool.and_false, Bool.true_and, Bool.false_and, Bool.or_true, Bool.or_false, Bool.true_or, Bool.false_or, wk_id hn, e, mp_host h2, m_give _ h3, e2, wk_any, wk_emp, m_spliced _ h4 h5 h6]
theorem repM_ok {σ : List MO} {as : List MV} {p : (MV × List MO) × Nat} (h : repM σ as = some p) : (rM p.2).call (.fn 3) as σ = some p.1 := by
  unfold repM at h
  split at h
  · rename_i f node s an hh k
    obtain ⟨hc, hA⟩ := cond_some h
    clear h
    obtain ⟨⟨⟨v, σ'⟩, m⟩, h1, hB⟩ := bind_some hA
    clear hA
    simp only [Bool.and_eq_true] at hc
    obtain ⟨⟨c1, c2⟩, c3⟩ := hc
    obtain rfl := Nat.eq_of_beq_eq_true c1
    replace hB : repV s hh ((v, σ'), m) v = some p := hB
    cases v <;> try (exact (no hB).elim)
    · cases hB
      exact m_rep0 c3 h1
    · rename_i vs
      replace hB : repT s hh ((.tup vs, σ'), m) vs = some p := hB
      unfold repT at hB
      split at hB
      · rename_i b a j
        obtain ⟨r, h2, hC⟩ := bind_some hB
        obtain ⟨hc, hD⟩ := cond_some hC
        cases hD
        simp only [Bool.and_eq_true] at hc
        obtain ⟨⟨⟨d1, d2⟩, d3⟩, d4⟩ := hc
        cases hk : lamOf k with
        | none => rw [hk] at c2; cases c2
        | some q =>
          rw [hk] at c2
          obtain ⟨q1, q2⟩ := q
          cases q1 <;> try (cases c2; done)
          exact m_rep1 hk c3 h1 h2 (isNilO_ok d1) d2 d3 d4
      · cases hB
  · cases h
/-! the host as it is made -/
theorem cM_host (n : Nat) (v0 v1 v2 v3 : MV) (σ : List MO) : (rM (n + 1)).call (.fn 5) [v0, v1, v2, v3] σ = ((rM n).ss db_PlainHost___init [.loc (some v0), .loc (some v1), .loc (some v2), .loc (some v3)] σ).bind retN := rfl
theorem put_at {ats : List (Nat × MV)} {a i : Nat} {v : MV} {σ : List MO} (h : at? σ i = some (.inst 1 ats)) (ha : (Nat.ble a 19 && Nat.ble ats.length 900) = true) (hn : notMeth dCT 1 a = true) : putA dCT a v σ (.ref i) = some (setAt (.inst 1 (putN a v ats)) σ i) := by
  show putAt dCT i a v σ (at? σ i) = _; rw [h]; show cond _ (cond _ _ _) _ = _; rw [ha, hn]; rfl
noncomputable def newH (v1 v2 v3 : MV) (l : Nat) : MO := .inst 1 [(0, v1.wk), (1, v2.wk), (2, v3.wk), (3, .int 64), (4, .int 0), (5, .ref l)]
theorem m_host (n : Nat) {i : Nat} {v1 v2 v3 : MV} {σ : List MO} (h : at? σ i = some (.inst 1 [])) : (rM (n + 20)).call (.fn 5) [.ref i, v1, v2, v3] σ = some (.none, setAt (newH v1 v2 v3 σ.length) σ i ++ [.list []]) := by
  have p0 := put_at (a := 0) (v := v1.wk) h rfl rfl
  have h1 := at?_set (v := MO.inst 1 [(0, v1.wk)]) h
  have p1 := put_at (a := 1) (v := v2.wk) h1 rfl rfl
  have h2 := at?_set (v := MO.inst 1 [(0, v1.wk), (1, v2.wk)]) h
  have p2 := put_at (a := 2) (v := v3.wk) h2 rfl rfl
  have h3 := at?_set (v := MO.inst 1 [(0, v1.wk), (1, v2.wk), (2, v3.wk)]) h
  have p3 := put_at (a := 3) (v := .int 64) h3 rfl rfl
  have h4 := at?_set (v := MO.inst 1 [(0, v1.wk), (1, v2.wk), (2, v3.wk), (3, .int 64)]) h
  have p4 := put_at (a := 4) (v := .int 0) h4 rfl rfl
  have h5 := at?_set (v := MO.inst 1 [(0, v1.wk), (1, v2.wk), (2, v3.wk), (3, .int 64), (4, .int 0)]) h
  have h6 := (at?_append (τ := [MO.list []]) (at?_lt h5)).trans h5
  have p5 := put_at (a := 5) (v := .ref σ.length) h6 rfl rfl
  have q1 : putN 0 v1.wk [] = [(0, v1.wk)] := rfl
  have q2 : putN 1 v2.wk [(0, v1.wk)] = [(0, v1.wk), (1, v2.wk)] := rfl
  have q3 : putN 2 v3.wk [(0, v1.wk), (1, v2.wk)] = [(0, v1.wk), (1, v2.wk), (2, v3.wk)] := rfl
  have q4 : putN 3 (.int 64) [(0, v1.wk), (1, v2.wk), (2, v3.wk)] = [(0, v1.wk), (1, v2.wk), (2, v3.wk), (3, .int 64)] := rfl
  have q5 : putN 4 (.int 0) [(0, v1.wk), (1, v2.wk), (2, v3.wk), (3, .int 64)] = [(0, v1.wk), (1, v2.wk), (2, v3.wk), (3, .int 64), (4, .int 0)] := rfl
  have q6 : putN 5 (.ref σ.length) [(0, v1.wk), (1, v2.wk), (2, v3.wk), (3, .int 64), (4, .int 0)] = [(0, v1.wk), (1, v2.wk), (2, v3.wk), (3, .int 64), (4, .int 0), (5, .ref σ.length)] := rfl
  have sl : ∀ (o : MO), (setAt o σ i).length = σ.length := fun o => by rw [setAt_eq, List.length_set]
  have li : ∀ (o : MO), i < (setAt o σ i).length := fun o => by rw [sl]; exact at?_lt h
  rw [cM_host]
  unfold db_PlainHost___init
  simp only [rM_ss, rM_s, rM_e, rM_es, rM_eo, rM_t, rM_ts, rM_a, rM_as, stepSs, fSs, stepS, fS, stepE, fE, stepEs, fEs, stepEo, stepT, fT, stepTs, fTs, stepA, fA, stepAs, ssN, tsN, tsE, getS, Option.bind_some, Option.bind_none, Option.map_some, cond_true, cond_false, retN, Cst.mv, Nat.beq_refl, wk_str, wk_chr, wk_int, wk_tup, wk_none, wk_ref, wk_bool, wk_wk, endv_ok, lk0, lk1, lk2, lk3, lk4, lk5, lk6, lk7, lk8, bl0, bl1, bl2, bl3, List.map_cons, List.map_nil, List.length_cons, List.length_nil, at?_z, at?_s, setAt_z, setAt_s, r0, asgB, isCst, List.all_cons, List.all_nil, List.any_cons, List.any_nil, asTup, putSl, eSub, subs, nth0, nth1, nth2, eCmp, cmpop, cIs, isNone, okAny, notAny, eBin, binop, bAdd, bII, eSlc, part, cutE, eCall, truth, exB, sEx, eMeth, okBase, mApp, Bool.not_true, Bool.not_false, Bool.and_true, Bool.and_false, Bool.true_and, Bool.false_and, Bool.or_true, Bool.or_false, Bool.true_or, Bool.false_or, p0, q1, p1, q2, set_set, p2, q3, p3, q4, p4, q5, newL, sl, p5, q6, set_append (li _)]
  rfl
noncomputable def mmR0 : Memo := fun k as σ => cond (Nat.beq k 3) (repM σ as) (mmP k as σ)
theorem mmR0_ok {G : St} (Z : Static G dFT dCT dGV) : MemoOk G mmR0 := fun k as σ p h => by
  cases hk : Nat.beq k 3 with
  | false =>
    replace h : cond (Nat.beq k 3) (repM σ as) (mmP k as σ) = some p := h
    rw [hk] at h
    exact mmP_ok Z k as σ p h
  | true =>
    replace h : cond (Nat.beq k 3) (repM σ as) (mmP k as σ) = some p := h
    rw [hk] at h
    obtain rfl := Nat.eq_of_beq_eq_true hk
    have e := repM_ok h
    refine ⟨?_, ?_⟩
    · obtain ⟨fn, ef⟩ := Option.isSome_iff_exists.mp (show (at? dFT 3).isSome = true by decide +kernel)
      obtain ⟨_, _, _, _, _, _, _, _, _, _, hf⟩ := Z.fn 3 fn ef
      exact hf.keep
    · intro A env h₀ L m N ρ s vs H I hvs P q
      obtain ⟨⟨pv, pσ⟩, pn⟩ := p
      exact (sound_run Z (mmP_ok Z) pn).callF H I hvs e P q
noncomputable def isNew : Option MO → Bool
  | some (.inst 1 []) => true
  | _ => false
theorem isNew_ok {o : Option MO} (h : isNew o = true) : o = some (.inst 1 []) := by
  unfold isNew at h
  split at h
  · rfl
  · cases h
noncomputable def hosM (σ : List MO) : List MV → Option ((MV × List MO) × Nat)
  | [.ref i, v1, v2, v3] => cond (isNew (at? σ i)) (some ((.none, setAt (newH v1 v2 v3 σ.length) σ i ++ [.list []]), 20)) none
  | _ => none
theorem hosM_ok {σ : List MO} {as : List MV} {p : (MV × List MO) × Nat} (h : hosM σ as = some p) : (rM p.2).call (.fn 5) as σ = some p.1 := by
  unfold hosM at h
  split at h
  · obtain ⟨hc, h⟩ := cond_some h
    cases h
    exact m_host 0 (isNew_ok hc)
  · cases h
noncomputable def mmR : Memo := fun k as σ => cond (Nat.beq k 5) (hosM σ as) (mmR0 k as σ)
theorem mmR_ok {G : St} (Z : Static G dFT dCT dGV) : MemoOk G mmR := fun k as σ p h => by
  cases hk : Nat.beq k 5 with
  | false =>
    replace h : cond (Nat.beq k 5) (hosM σ as) (mmR0 k as σ) = some p := h
    rw [hk] at h
    exact mmR0_ok Z k as σ p h
  | true =>
    replace h : cond (Nat.beq k 5) (hosM σ as) (mmR0 k as σ) = some p := h
    rw [hk] at h
    obtain rfl := Nat.eq_of_beq_eq_true hk
    have e := hosM_ok h
    refine ⟨?_, ?_⟩
    · obtain ⟨fn, ef⟩ := Option.isSome_iff_exists.mp (show (at? dFT 5).isSome = true by decide +kernel)
      obtain ⟨_, _, _, _, _, _, _, _, _, _, hf⟩ := Z.fn 5 fn ef
      exact hf.keep
    · intro A env h₀ L m N ρ s vs H I hvs P q
      obtain ⟨⟨pv, pσ⟩, pn⟩ := p
      exact (sound_run Z (mmP_ok Z) pn).callF H I hvs e P q
end Mine

open PySem PySem.W PyProof.Rows PySem.Calls
namespace Mine
set_option autoImplicit false
set_option backward.match.sparseCases false
set_option maxRecDepth 100000
noncomputable def lawL (xs : List MV) : List Slot := [.loc (some (.bl xs)), .loc none, .cel 0, .cel 1, .loc none, .cel 2, .loc none, .loc none, .loc none, .loc none, .loc none, .loc none, .loc none, .loc none, .loc none, .glb (.bi .len), .glb (.bi .range), .glb (.fn 21), .glb (.cls 0), .glb (.cls 1), .glb (.fn 3), .glb (.fn 14), .nid 3, .nst 0 1 []]
noncomputable def lawS : List MO := [.cell none, .cell none, .cell none]
noncomputable def rl : Rec := run dFT dCT dGV mmR 440
noncomputable def isNext : Fl → Bool
  | .next => true
  | _ => false
noncomputable def isT : MV → Bool
  | .bool b => b
  | _ => false
noncomputable def isTru : Fl → Bool
  | .ret v => isT v
  | _ => false
noncomputable def forget : List Slot → List Slot
  | [] => []
  | _ :: l => .loc none :: l
noncomputable def bs1 : S := (at? db_law 0).getD (.raw noSt)
noncomputable def bs2 : S := (at? db_law 1).getD (.raw noSt)
noncomputable def hdQ (xs : List MV) : Option (List Slot × List MO) :=
  (rl.s bs1 (lawL xs) lawS).bind fun y => cond (isNext y.1) ((rl.s bs2 y.2.1 y.2.2).bind fun z => cond (isNext z.1) (some (forget z.2.1, z.2.2)) none) none
noncomputable def tlQ (x : Option (List Slot × List MO)) : Bool := (x.bind fun y => (rl.ss (db_law.drop 2) y.1 y.2).bind fun z => some (isTru z.1)) == some true
noncomputable def scr (M Q a b c k : Nat) : List MV := .ab 4 a :: .ab M b :: .ab Q c :: List.replicate k .any
theorem isNext_ok {f : Fl} (h : isNext f = true) : f = .next := by cases f <;> first | rfl | cases h
theorem isTru_ok {f : Fl} (h : isTru f = true) : f = .ret (.bool true) := by
  cases f <;> try (cases h; done)
  rename_i v
  replace h : isT v = true := h
  cases v <;> try (cases h; done)
  rename_i b
  rw [show b = true from h]
theorem evals {xs : List MV} (h : tlQ (hdQ xs) = true) : ∃ sl1 σ1 sl2 σ2 sl3 σ3, rl.s bs1 (lawL xs) lawS = some (.next, sl1, σ1) ∧ rl.s bs2 sl1 σ1 = some (.next, sl2, σ2) ∧
    rl.ss (db_law.drop 2) (forget sl2) σ2 = some (.ret (.bool true), sl3, σ3) := by
  obtain ⟨⟨l, σ⟩, h1, h⟩ := bind_some (eq_of_beq h)
  obtain ⟨⟨f3, sl3, σ3⟩, e3, h⟩ := bind_some h
  obtain rfl := isTru_ok (Option.some.inj h)
  obtain ⟨⟨f1, sl1, σ1⟩, e1, h1⟩ := bind_some h1
  obtain ⟨n1, h1⟩ := cond_some h1
  obtain rfl := isNext_ok n1
  obtain ⟨⟨f2, sl2, σ2⟩, e2, h1⟩ := bind_some h1
  obtain ⟨n2, h1⟩ := cond_some h1
  obtain rfl := isNext_ok n2
  cases h1
  exact ⟨sl1, σ1, sl2, σ2, sl3, σ3, e1, e2, e3⟩
end Mine

open PySem PySem.W PyProof.Rows PySem.Calls
namespace Mine
set_option autoImplicit false
set_option backward.match.sparseCases false
set_option linter.unusedVariables false
set_option maxRecDepth 1000000
set_option maxHeartbeats 0
noncomputable def pg : Program := PySem.Challenge.rw_xm0955_04.row.toRowW.prog
noncomputable abbrev vs (x : Str) (t : Tok) : Value := .str x t
noncomputable abbrev vi (x : Int) (t : Tok) : Value := .int x t
noncomputable abbrev vr (a : Addr) : Value := .ref a
noncomputable abbrev vt (x : String) : Value := .type x
noncomputable abbrev vb (x : String) : Value := .builtin x
noncomputable abbrev vn : Value := .none
noncomputable abbrev de (P : Params) (k : Str) (t : Tok) (v : Value) : DictEntry := ⟨PyData.keyHash P k, .str k t, v⟩
noncomputable abbrev nd (v : Obj) (l r : BT) : BT := .node v l r
noncomputable def noS : Stmt := .Pass ⟨0, 0, 0, 0⟩
noncomputable def f1 (i : Nat) : Stmt := (pg.main.body[i]?).getD noS
noncomputable def inB : Stmt → List Stmt
  | .ClassDef _ _ _ b _ _ _ _ _ _ _ => b
  | _ => []
noncomputable def f2 (i j : Nat) : Stmt := ((inB (f1 i))[j]?).getD noS
noncomputable def prm : Stmt → Arguments
  | .FunctionDef _ a _ _ _ _ _ _ _ _ => a
  | _ => { posonlyargs := [], args := [], vararg := none, kwonlyargs := [], kw_defaults := [], kwarg := none, defaults := [] }
noncomputable def bdy : Stmt → List Stmt
  | .FunctionDef _ _ b _ _ _ _ _ _ _ => b
  | _ => []
noncomputable def scp : Stmt → Scope
  | .FunctionDef _ _ _ _ _ _ s _ _ _ => s
  | _ => { kind := .function, names := [], isGenerator := false, isCoroutine := false }
noncomputable def ob0 (P : Params) : Obj := Obj.mk (vt "tuple") none (Data.seq #[]) #[]
noncomputable def ob1 (P : Params) : Obj := Obj.mk vn none (Data.fields #[]) #[]
noncomputable def ob2 (P : Params) : Obj := Obj.mk (vt "code") none (Data.fields #[vs "<module>" 182, vs "<module>" 183, vs "/claim/cut.py" 184, vi 1 0, vi 0 0, vi 0 0, vi 0 0, vi 0 0, vr 11, Value.bool false, vi 181 0, vr 12, vn, vn, vn, vn, vi 185 0, vi 1 0, vs "/claim/cut.py" 186]) #[]
noncomputable def ob3 (P : Params) : Obj := Obj.mk (vt "frame") none Data.plain #[some (vr 13), some (vr 3), some (vr 3), none, some (vs "__main__" 164), none, some (vr 0)]
noncomputable def ob4 (P : Params) : Obj := Obj.mk vn none (Data.dict #[de P "type.__subclasses__.Exception.0" 265 (vi 62 0), de P "type.__subclasses__.Exception.n" 266 (vi 1 0)] 2) #[]
noncomputable def ob5 (P : Params) : Obj := Obj.mk (vt "dict") none (Data.dict #[de P "__name__" 165 (vs "law_xm0955_04" 827), de P "__doc__" 166 vn, de P "__package__" 167 vn, de P "__loader__" 168 (vb "__main__.__loader__#opaque"), de P "__spec__" 169 vn, de P "__annotations__" 170 (vr 6), de P "__builtins__" 171 (vr 4), de P "__file__" 173 (vs "/claim/cut.py" 172), de P "__cached__" 174 vn, de P "give_names" 198 (vr 21), de P "three_pieces" 206 (vr 28), de P "spliced" 218 (vr 35), de P "replace_once" 232 (vr 42), de P "SnobolError" 268 (vr 62), de P "Failure" 288 (vr 75), de P "Pattern" 317 (vr 96), de P "Delayed" 346 (vr 117), de P "NameRef" 379 (vr 138), de P "is_fail" 386 (vr 149), de P "fits" 394 (vr 156), de P "whole_of_text" 405 (vr 163), de P "text_of_whole" 414 (vr 170), de P "to_whole" 422 (vr 177), de P "to_text" 429 (vr 184), de P "need_text" 437 (vr 191), de P "PlainHost" 499 (vr 229), de P "COUNTED" 507 (vr 234), de P "SIGNED" 512 (vr 235), de P "WIDTH_OF_COUNT" 514 (vi 64 513), de P "plain_count" 524 (vr 243), de P "plain_signs" 533 (vr 250), de P "pattern_of" 541 (vr 257), de P "is_delayed" 548 (vr 264), de P "settled" 557 (vr 271), de P "OPENING" 561 (vs "(" 560), de P "CLOSING" 563 (vs ")" 562), de P "chars_end" 573 (vr 278), de P "len_end" 582 (vr 285), de P "pos_end" 590 (vr 292), de P "rpos_end" 599 (vr 299), de P "tab_end" 608 (vr 306), de P "rtab_end" 618 (vr 313), de P "rem_end" 625 (vr 320), de P "any_at" 634 (vr 327), de P "notany_at" 643 (vr 334), de P "run_end" 653 (vr 341), de P "span_end" 663 (vr 348), de P "break_end" 673 (vr 355), de P "bal_end" 682 (vr 362), de P "bal_ends" 692 (vr 369), de P "one_end" 702 (vr 376), de P "plain_end" 711 (vr 383), de P "LOST" 715 (vs "lost" 714), de P "match_plain" 727 (vr 390), de P "match_at" 738 (vr 397), de P "tried" 753 (vr 404), de P "advanced" 769 (vr 411), de P "led_in" 781 (vr 418), de P "led_out" 797 (vr 425), de P "steered" 809 (vr 432), de P "taken" 826 (vr 439), de P "_law_edges" 843 (vr 446), de P "law" 849 (vr 451)] 63) #[]
noncomputable def ob6 (P : Params) : Obj := Obj.mk vn none (Data.fields #[vi 2 0, vi 0 0, vr 20, vi 5 0, vi 0 0, vr 27, vi 7 0, vi 0 0, vr 34, vi 10 0, vi 0 0, vr 41, vi 18 0, vi 0 0, vr 49, vi 24 0, vi 0 0, vr 71, vi 26 0, vi 0 0, vr 85, vi 30 0, vi 0 0, vr 106, vi 34 0, vi 0 0, vr 127, vi 40 0, vi 0 0, vr 148, vi 42 0, vi 0 0, vr 155, vi 44 0, vi 0 0, vr 162, vi 57 0, vi 0 0, vr 169, vi 63 0, vi 0 0, vr 176, vi 67 0, vi 0 0, vr 183, vi 71 0, vi 0 0, vr 190, vi 77 0, vi 0 0, vr 197, vi 107 0, vi 0 0, vr 242, vi 114 0, vi 0 0, vr 249, vi 119 0, vi 0 0, vr 256, vi 128 0, vi 0 0, vr 263, vi 130 0, vi 0 0, vr 270, vi 142 0, vi 0 0, vr 277, vi 145 0, vi 0 0, vr 284, vi 147 0, vi 0 0, vr 291, vi 149 0, vi 0 0, vr 298, vi 151 0, vi 0 0, vr 305, vi 153 0, vi 0 0, vr 312, vi 156 0, vi 0 0, vr 319, vi 158 0, vi 0 0, vr 326, vi 160 0, vi 0 0, vr 333, vi 162 0, vi 0 0, vr 340, vi 166 0, vi 0 0, vr 347, vi 169 0, vi 0 0, vr 354, vi 172 0, vi 0 0, vr 361, vi 185 0, vi 0 0, vr 368, vi 191 0, vi 0 0, vr 375, vi 211 0, vi 0 0, vr 382, vi 215 0, vi 0 0, vr 389, vi 221 0, vi 0 0, vr 396, vi 224 0, vi 0 0, vr 403, vi 242 0, vi 0 0, vr 410, vi 257 0, vi 0 0, vr 417, vi 268 0, vi 0 0, vr 424, vi 275 0, vi 0 0, vr 431, vi 283 0, vi 0 0, vr 438, vi 300 0, vi 0 0, vr 445, vi 311 0, vi 0 0, vr 450]) #[]
noncomputable def ob7 (P : Params) : Obj := Obj.mk (vt "tuple") none (Data.seq #[vs "found" 192, vs "give" 193, vs "ref" 194, vs "text" 195]) #[]
noncomputable def ob8 (P : Params) : Obj := Obj.mk vn none (Data.func (FuncData.mk "give_names" "give_names" (prm (f1 1)) (FuncBody.stmts (bdy (f1 1))) (scp (f1 1)) 0 [] vn vn vn vn none vn vn 0)) #[]
noncomputable def ob9 (P : Params) : Obj := Obj.mk (vt "code") none (Data.fields #[vs "give_names" 189, vs "give_names" 190, vs "/claim/cut.py" 191, vi 2 0, vi 2 0, vi 0 0, vi 0 0, vi 3 0, vr 15, Value.bool true, vi 181 0, vr 16, vn, vr 17, vr 18, vr 19, vi 196 0, vi 2 0, vs "/claim/cut.py" 197]) #[]
noncomputable def ob10 (P : Params) : Obj := Obj.mk (vt "function") none (Data.func (FuncData.mk "give_names" "give_names" (prm (f1 1)) (FuncBody.stmts (bdy (f1 1))) (scp (f1 1)) 3 [] vn vn vn (vs "snobol.matchcore" 187) none (vr 20) vn 0)) #[]
noncomputable def ob11 (P : Params) : Obj := Obj.mk (vt "tuple") none (Data.seq #[vs "subject" 202, vs "found" 203]) #[]
noncomputable def ob12 (P : Params) : Obj := Obj.mk vn none (Data.func (FuncData.mk "three_pieces" "three_pieces" (prm (f1 2)) (FuncBody.stmts (bdy (f1 2))) (scp (f1 2)) 0 [] vn vn vn vn none vn vn 0)) #[]
noncomputable def ob13 (P : Params) : Obj := Obj.mk (vt "code") none (Data.fields #[vs "three_pieces" 199, vs "three_pieces" 200, vs "/claim/cut.py" 201, vi 5 0, vi 2 0, vi 0 0, vi 0 0, vi 3 0, vr 22, Value.bool true, vi 181 0, vr 23, vn, vr 24, vr 25, vr 26, vi 204 0, vi 5 0, vs "/claim/cut.py" 205]) #[]
noncomputable def ob14 (P : Params) : Obj := Obj.mk (vt "function") none (Data.func (FuncData.mk "three_pieces" "three_pieces" (prm (f1 2)) (FuncBody.stmts (bdy (f1 2))) (scp (f1 2)) 3 [] vn vn vn (vs "snobol.matchcore" 187) none (vr 27) vn 0)) #[]
noncomputable def ob15 (P : Params) : Obj := Obj.mk (vt "tuple") none (Data.seq #[vs "subject" 210, vs "found" 211, vs "text" 212, vs "ahead" 213, vs "met" 214, vs "behind" 215]) #[]
noncomputable def ob16 (P : Params) : Obj := Obj.mk vn none (Data.func (FuncData.mk "spliced" "spliced" (prm (f1 3)) (FuncBody.stmts (bdy (f1 3))) (scp (f1 3)) 0 [] vn vn vn vn none vn vn 0)) #[]
noncomputable def ob17 (P : Params) : Obj := Obj.mk (vt "code") none (Data.fields #[vs "spliced" 207, vs "spliced" 208, vs "/claim/cut.py" 209, vi 7 0, vi 3 0, vi 0 0, vi 0 0, vi 3 0, vr 29, Value.bool true, vi 181 0, vr 30, vn, vr 31, vr 32, vr 33, vi 216 0, vi 7 0, vs "/claim/cut.py" 217]) #[]
noncomputable def ob18 (P : Params) : Obj := Obj.mk (vt "function") none (Data.func (FuncData.mk "spliced" "spliced" (prm (f1 3)) (FuncBody.stmts (bdy (f1 3))) (scp (f1 3)) 3 [] vn vn vn (vs "snobol.matchcore" 187) none (vr 34) vn 0)) #[]
noncomputable def ob19 (P : Params) : Obj := Obj.mk (vt "tuple") none (Data.seq #[vs "matcher" 222, vs "node" 223, vs "subject" 224, vs "is_anchored" 225, vs "host" 226, vs "text_of" 227, vs "found" 228, vs "text" 229]) #[]
noncomputable def ob20 (P : Params) : Obj := Obj.mk vn none (Data.func (FuncData.mk "replace_once" "replace_once" (prm (f1 4)) (FuncBody.stmts (bdy (f1 4))) (scp (f1 4)) 0 [] vn vn vn vn none vn vn 0)) #[]
noncomputable def ob21 (P : Params) : Obj := Obj.mk (vt "code") none (Data.fields #[vs "replace_once" 219, vs "replace_once" 220, vs "/claim/cut.py" 221, vi 10 0, vi 6 0, vi 0 0, vi 0 0, vi 3 0, vr 36, Value.bool true, vi 181 0, vr 37, vn, vr 38, vr 39, vr 40, vi 230 0, vi 10 0, vs "/claim/cut.py" 231]) #[]
noncomputable def ob22 (P : Params) : Obj := Obj.mk (vt "function") none (Data.func (FuncData.mk "replace_once" "replace_once" (prm (f1 4)) (FuncBody.stmts (bdy (f1 4))) (scp (f1 4)) 3 [] vn vn vn (vs "snobol.matchcore" 187) none (vr 41) vn 0)) #[]
noncomputable def ob23 (P : Params) : Obj := Obj.mk (vt "tuple") none (Data.seq #[vt "Exception"]) #[]
noncomputable def ob24 (P : Params) : Obj := Obj.mk (vt "builtin_function_or_method") none (Data.fields #[vb "type.__prepare__", vt "type"]) #[]
noncomputable def ob25 (P : Params) : Obj := Obj.mk (vt "dict") none (Data.dict #[de P "__module__" 242 (vs "snobol.values" 233), de P "__qualname__" 244 (vs "SnobolError" 243), de P "__firstlineno__" 246 (vi 18 245), de P "__init__" 257 (vr 59), de P "__static_attributes__" 260 (vr 60), de P "__classcell__" 261 (vr 46)] 6) #[]
noncomputable def ob26 (P : Params) : Obj := Obj.mk (vt "cell") none (Data.cell (some (vr 62))) #[]
noncomputable def ob27 (P : Params) : Obj := Obj.mk vn none (Data.fields #[vi 20 0, vi 4 0, vr 58]) #[]
noncomputable def ob28 (P : Params) : Obj := Obj.mk (vt "code") none (Data.fields #[vs "SnobolError" 237, vs "SnobolError" 238, vs "/claim/cut.py" 239, vi 18 0, vi 0 0, vi 0 0, vi 0 0, vi 0 0, vr 47, Value.bool false, vi 181 0, vr 48, vn, vn, vn, vn, vi 240 0, vi 18 0, vs "/claim/cut.py" 241]) #[]
noncomputable def ob29 (P : Params) : Obj := Obj.mk (vt "frame") none Data.plain #[some (vr 49), some (vr 3), some (vr 45), none, some (vs "snobol.values" 233), none, some (vr 0)]
noncomputable def ob30 (P : Params) : Obj := Obj.mk (vt "tuple") none (Data.seq #[vs "" 247]) #[]
noncomputable def ob31 (P : Params) : Obj := Obj.mk (vt "tuple") none (Data.seq #[vr 46]) #[]
noncomputable def ob32 (P : Params) : Obj := Obj.mk (vt "tuple") none (Data.seq #[vs "__class__" 251]) #[]
noncomputable def ob33 (P : Params) : Obj := Obj.mk (vt "tuple") none (Data.seq #[vs "self" 252, vs "number" 253, vs "told" 254]) #[]
noncomputable def ob34 (P : Params) : Obj := Obj.mk vn none (Data.func (FuncData.mk "__init__" "SnobolError.__init__" (prm (f2 6 0)) (FuncBody.stmts (bdy (f2 6 0))) (scp (f2 6 0)) 0 [] vn vn vn vn none vn vn 0)) #[]
noncomputable def ob35 (P : Params) : Obj := Obj.mk (vt "code") none (Data.fields #[vs "__init__" 248, vs "SnobolError.__init__" 249, vs "/claim/cut.py" 250, vi 20 0, vi 3 0, vi 0 0, vi 0 0, vi 3 0, vr 53, Value.bool true, vi 181 0, vr 54, vn, vr 55, vr 56, vr 57, vi 255 0, vi 20 0, vs "/claim/cut.py" 256]) #[]
noncomputable def ob36 (P : Params) : Obj := Obj.mk (vt "function") none (Data.func (FuncData.mk "__init__" "SnobolError.__init__" (prm (f2 6 0)) (FuncBody.stmts (bdy (f2 6 0))) (scp (f2 6 0)) 3 [(Str.ofString "__class__", 46)] (vr 51) vn vn (vs "snobol.values" 233) none (vr 58) (vr 52) 0)) #[]
noncomputable def ob37 (P : Params) : Obj := Obj.mk (vt "tuple") none (Data.seq #[vs "number" 258, vs "told" 259]) #[]
noncomputable def ob38 (P : Params) : Obj := Obj.mk (vt "dict") none (Data.dict #[de P "__module__" 242 (vs "snobol.values" 233), de P "__firstlineno__" 246 (vi 18 245), de P "__init__" 257 (vr 59), de P "__static_attributes__" 260 (vr 60), de P "__weakref__" 263 (vr 63), de P "__doc__" 264 vn] 4) #[]
noncomputable def ob39 (P : Params) : Obj := Obj.mk (vt "type") none (Data.cls (ClassData.mk "SnobolError" [vt "Exception"] [vr 62, vt "Exception", vt "BaseException", vt "object"] 61 "SnobolError" true [] [] false none false)) #[some (vr 43), none, some (vs "SnobolError" 235), some (vs "SnobolError" 243), some (vb "Exception.__new__"), some (Value.bool true)]
noncomputable def ob40 (P : Params) : Obj := Obj.mk (vt "getset_descriptor") none (Data.fields #[vs "__weakref__" 262, vr 62, vb "ExceptionGroup.__weakref__", vn]) #[]
noncomputable def ob41 (P : Params) : Obj := Obj.mk (vt "super") none (Data.fields #[vr 62, vr 62, vr 62]) #[]
noncomputable def ob42 (P : Params) : Obj := Obj.mk (vt "builtin_function_or_method") none (Data.fields #[vb "object.__init_subclass__", vr 62]) #[]
noncomputable def ob43 (P : Params) : Obj := Obj.mk (vt "dict") none (Data.dict #[de P "__module__" 276 (vs "snobol.values" 233), de P "__qualname__" 278 (vs "Failure" 277), de P "__firstlineno__" 280 (vi 24 279), de P "__static_attributes__" 281 (vr 73)] 4) #[]
noncomputable def ob44 (P : Params) : Obj := Obj.mk (vt "code") none (Data.fields #[vs "Failure" 271, vs "Failure" 272, vs "/claim/cut.py" 273, vi 24 0, vi 0 0, vi 0 0, vi 0 0, vi 0 0, vr 69, Value.bool false, vi 181 0, vr 70, vn, vn, vn, vn, vi 274 0, vi 24 0, vs "/claim/cut.py" 275]) #[]
noncomputable def ob45 (P : Params) : Obj := Obj.mk (vt "frame") none Data.plain #[some (vr 71), some (vr 3), some (vr 68), none, some (vs "snobol.values" 233), none, some (vr 0)]
noncomputable def ob46 (P : Params) : Obj := Obj.mk (vt "dict") none (Data.dict #[de P "__module__" 276 (vs "snobol.values" 233), de P "__firstlineno__" 280 (vi 24 279), de P "__static_attributes__" 281 (vr 73), de P "__dict__" 283 (vr 76), de P "__weakref__" 285 (vr 77), de P "__doc__" 286 vn] 4) #[]
noncomputable def ob47 (P : Params) : Obj := Obj.mk (vt "type") none (Data.cls (ClassData.mk "Failure" [vt "object"] [vr 75, vt "object"] 74 "Failure" true [] [] false none false)) #[none, none, some (vs "Failure" 269), some (vs "Failure" 277), some (vb "object.__new__"), some (Value.bool true)]
noncomputable def ob48 (P : Params) : Obj := Obj.mk (vt "getset_descriptor") none (Data.fields #[vs "__dict__" 282, vr 75, vb "function.__dict__", vb "function.__dict__#set"]) #[]
noncomputable def ob49 (P : Params) : Obj := Obj.mk (vt "getset_descriptor") none (Data.fields #[vs "__weakref__" 284, vr 75, vb "ExceptionGroup.__weakref__", vn]) #[]
noncomputable def ob50 (P : Params) : Obj := Obj.mk (vt "super") none (Data.fields #[vr 75, vr 75, vr 75]) #[]
noncomputable def ob51 (P : Params) : Obj := Obj.mk (vt "builtin_function_or_method") none (Data.fields #[vb "object.__init_subclass__", vr 75]) #[]
noncomputable def ob52 (P : Params) : Obj := Obj.mk (vt "dict") none (Data.dict #[de P "__module__" 296 (vs "snobol.values" 233), de P "__qualname__" 298 (vs "Pattern" 297), de P "__firstlineno__" 300 (vi 26 299), de P "__init__" 308 (vr 93), de P "__static_attributes__" 310 (vr 94)] 5) #[]
noncomputable def ob53 (P : Params) : Obj := Obj.mk vn none (Data.fields #[vi 28 0, vi 4 0, vr 92]) #[]
noncomputable def ob54 (P : Params) : Obj := Obj.mk (vt "code") none (Data.fields #[vs "Pattern" 291, vs "Pattern" 292, vs "/claim/cut.py" 293, vi 26 0, vi 0 0, vi 0 0, vi 0 0, vi 0 0, vr 83, Value.bool false, vi 181 0, vr 84, vn, vn, vn, vn, vi 294 0, vi 26 0, vs "/claim/cut.py" 295]) #[]
noncomputable def ob55 (P : Params) : Obj := Obj.mk (vt "frame") none Data.plain #[some (vr 85), some (vr 3), some (vr 82), none, some (vs "snobol.values" 233), none, some (vr 0)]
noncomputable def ob56 (P : Params) : Obj := Obj.mk (vt "tuple") none (Data.seq #[vs "self" 304, vs "node" 305]) #[]
noncomputable def ob57 (P : Params) : Obj := Obj.mk vn none (Data.func (FuncData.mk "__init__" "Pattern.__init__" (prm (f2 8 0)) (FuncBody.stmts (bdy (f2 8 0))) (scp (f2 8 0)) 0 [] vn vn vn vn none vn vn 0)) #[]
noncomputable def ob58 (P : Params) : Obj := Obj.mk (vt "code") none (Data.fields #[vs "__init__" 301, vs "Pattern.__init__" 302, vs "/claim/cut.py" 303, vi 28 0, vi 2 0, vi 0 0, vi 0 0, vi 3 0, vr 87, Value.bool true, vi 181 0, vr 88, vn, vr 89, vr 90, vr 91, vi 306 0, vi 28 0, vs "/claim/cut.py" 307]) #[]
noncomputable def ob59 (P : Params) : Obj := Obj.mk (vt "function") none (Data.func (FuncData.mk "__init__" "Pattern.__init__" (prm (f2 8 0)) (FuncBody.stmts (bdy (f2 8 0))) (scp (f2 8 0)) 3 [] vn vn vn (vs "snobol.values" 233) none (vr 92) vn 0)) #[]
noncomputable def ob60 (P : Params) : Obj := Obj.mk (vt "tuple") none (Data.seq #[vs "node" 309]) #[]
noncomputable def ob61 (P : Params) : Obj := Obj.mk (vt "dict") none (Data.dict #[de P "__module__" 296 (vs "snobol.values" 233), de P "__firstlineno__" 300 (vi 26 299), de P "__init__" 308 (vr 93), de P "__static_attributes__" 310 (vr 94), de P "__dict__" 312 (vr 97), de P "__weakref__" 314 (vr 98), de P "__doc__" 315 vn] 4) #[]
noncomputable def ob62 (P : Params) : Obj := Obj.mk (vt "type") none (Data.cls (ClassData.mk "Pattern" [vt "object"] [vr 96, vt "object"] 95 "Pattern" true [] [] false none false)) #[none, none, some (vs "Pattern" 289), some (vs "Pattern" 297), some (vb "object.__new__"), some (Value.bool true)]
noncomputable def ob63 (P : Params) : Obj := Obj.mk (vt "getset_descriptor") none (Data.fields #[vs "__dict__" 311, vr 96, vb "function.__dict__", vb "function.__dict__#set"]) #[]
noncomputable def ob64 (P : Params) : Obj := Obj.mk (vt "getset_descriptor") none (Data.fields #[vs "__weakref__" 313, vr 96, vb "ExceptionGroup.__weakref__", vn]) #[]
noncomputable def ob65 (P : Params) : Obj := Obj.mk (vt "super") none (Data.fields #[vr 96, vr 96, vr 96]) #[]
noncomputable def ob66 (P : Params) : Obj := Obj.mk (vt "builtin_function_or_method") none (Data.fields #[vb "object.__init_subclass__", vr 96]) #[]
noncomputable def ob67 (P : Params) : Obj := Obj.mk (vt "dict") none (Data.dict #[de P "__module__" 325 (vs "snobol.values" 233), de P "__qualname__" 327 (vs "Delayed" 326), de P "__firstlineno__" 329 (vi 30 328), de P "__init__" 337 (vr 114), de P "__static_attributes__" 339 (vr 115)] 5) #[]
noncomputable def ob68 (P : Params) : Obj := Obj.mk vn none (Data.fields #[vi 32 0, vi 4 0, vr 113]) #[]
noncomputable def ob69 (P : Params) : Obj := Obj.mk (vt "code") none (Data.fields #[vs "Delayed" 320, vs "Delayed" 321, vs "/claim/cut.py" 322, vi 30 0, vi 0 0, vi 0 0, vi 0 0, vi 0 0, vr 104, Value.bool false, vi 181 0, vr 105, vn, vn, vn, vn, vi 323 0, vi 30 0, vs "/claim/cut.py" 324]) #[]
noncomputable def ob70 (P : Params) : Obj := Obj.mk (vt "frame") none Data.plain #[some (vr 106), some (vr 3), some (vr 103), none, some (vs "snobol.values" 233), none, some (vr 0)]
noncomputable def ob71 (P : Params) : Obj := Obj.mk (vt "tuple") none (Data.seq #[vs "self" 333, vs "tree" 334]) #[]
noncomputable def ob72 (P : Params) : Obj := Obj.mk vn none (Data.func (FuncData.mk "__init__" "Delayed.__init__" (prm (f2 9 0)) (FuncBody.stmts (bdy (f2 9 0))) (scp (f2 9 0)) 0 [] vn vn vn vn none vn vn 0)) #[]
noncomputable def ob73 (P : Params) : Obj := Obj.mk (vt "code") none (Data.fields #[vs "__init__" 330, vs "Delayed.__init__" 331, vs "/claim/cut.py" 332, vi 32 0, vi 2 0, vi 0 0, vi 0 0, vi 3 0, vr 108, Value.bool true, vi 181 0, vr 109, vn, vr 110, vr 111, vr 112, vi 335 0, vi 32 0, vs "/claim/cut.py" 336]) #[]
noncomputable def ob74 (P : Params) : Obj := Obj.mk (vt "function") none (Data.func (FuncData.mk "__init__" "Delayed.__init__" (prm (f2 9 0)) (FuncBody.stmts (bdy (f2 9 0))) (scp (f2 9 0)) 3 [] vn vn vn (vs "snobol.values" 233) none (vr 113) vn 0)) #[]
noncomputable def ob75 (P : Params) : Obj := Obj.mk (vt "tuple") none (Data.seq #[vs "tree" 338]) #[]
noncomputable def ob76 (P : Params) : Obj := Obj.mk (vt "dict") none (Data.dict #[de P "__module__" 325 (vs "snobol.values" 233), de P "__firstlineno__" 329 (vi 30 328), de P "__init__" 337 (vr 114), de P "__static_attributes__" 339 (vr 115), de P "__dict__" 341 (vr 118), de P "__weakref__" 343 (vr 119), de P "__doc__" 344 vn] 4) #[]
noncomputable def ob77 (P : Params) : Obj := Obj.mk (vt "type") none (Data.cls (ClassData.mk "Delayed" [vt "object"] [vr 117, vt "object"] 116 "Delayed" true [] [] false none false)) #[none, none, some (vs "Delayed" 318), some (vs "Delayed" 326), some (vb "object.__new__"), some (Value.bool true)]
noncomputable def ob78 (P : Params) : Obj := Obj.mk (vt "getset_descriptor") none (Data.fields #[vs "__dict__" 340, vr 117, vb "function.__dict__", vb "function.__dict__#set"]) #[]
noncomputable def ob79 (P : Params) : Obj := Obj.mk (vt "getset_descriptor") none (Data.fields #[vs "__weakref__" 342, vr 117, vb "ExceptionGroup.__weakref__", vn]) #[]
noncomputable def ob80 (P : Params) : Obj := Obj.mk (vt "super") none (Data.fields #[vr 117, vr 117, vr 117]) #[]
noncomputable def ob81 (P : Params) : Obj := Obj.mk (vt "builtin_function_or_method") none (Data.fields #[vb "object.__init_subclass__", vr 117]) #[]
noncomputable def ob82 (P : Params) : Obj := Obj.mk (vt "dict") none (Data.dict #[de P "__module__" 354 (vs "snobol.values" 233), de P "__qualname__" 356 (vs "NameRef" 355), de P "__firstlineno__" 358 (vi 34 357), de P "__init__" 368 (vr 135), de P "__static_attributes__" 372 (vr 136)] 5) #[]
noncomputable def ob83 (P : Params) : Obj := Obj.mk vn none (Data.fields #[vi 36 0, vi 4 0, vr 134]) #[]
noncomputable def ob84 (P : Params) : Obj := Obj.mk (vt "code") none (Data.fields #[vs "NameRef" 349, vs "NameRef" 350, vs "/claim/cut.py" 351, vi 34 0, vi 0 0, vi 0 0, vi 0 0, vi 0 0, vr 125, Value.bool false, vi 181 0, vr 126, vn, vn, vn, vn, vi 352 0, vi 34 0, vs "/claim/cut.py" 353]) #[]
noncomputable def ob85 (P : Params) : Obj := Obj.mk (vt "frame") none Data.plain #[some (vr 127), some (vr 3), some (vr 124), none, some (vs "snobol.values" 233), none, some (vr 0)]
noncomputable def ob86 (P : Params) : Obj := Obj.mk (vt "tuple") none (Data.seq #[vs "self" 362, vs "kind" 363, vs "owner" 364, vs "key" 365]) #[]
noncomputable def ob87 (P : Params) : Obj := Obj.mk vn none (Data.func (FuncData.mk "__init__" "NameRef.__init__" (prm (f2 10 0)) (FuncBody.stmts (bdy (f2 10 0))) (scp (f2 10 0)) 0 [] vn vn vn vn none vn vn 0)) #[]
noncomputable def ob88 (P : Params) : Obj := Obj.mk (vt "code") none (Data.fields #[vs "__init__" 359, vs "NameRef.__init__" 360, vs "/claim/cut.py" 361, vi 36 0, vi 4 0, vi 0 0, vi 0 0, vi 3 0, vr 129, Value.bool true, vi 181 0, vr 130, vn, vr 131, vr 132, vr 133, vi 366 0, vi 36 0, vs "/claim/cut.py" 367]) #[]
noncomputable def ob89 (P : Params) : Obj := Obj.mk (vt "function") none (Data.func (FuncData.mk "__init__" "NameRef.__init__" (prm (f2 10 0)) (FuncBody.stmts (bdy (f2 10 0))) (scp (f2 10 0)) 3 [] vn vn vn (vs "snobol.values" 233) none (vr 134) vn 0)) #[]
noncomputable def ob90 (P : Params) : Obj := Obj.mk (vt "tuple") none (Data.seq #[vs "key" 369, vs "kind" 370, vs "owner" 371]) #[]
noncomputable def ob91 (P : Params) : Obj := Obj.mk (vt "dict") none (Data.dict #[de P "__module__" 354 (vs "snobol.values" 233), de P "__firstlineno__" 358 (vi 34 357), de P "__init__" 368 (vr 135), de P "__static_attributes__" 372 (vr 136), de P "__dict__" 374 (vr 139), de P "__weakref__" 376 (vr 140), de P "__doc__" 377 vn] 4) #[]
noncomputable def ob92 (P : Params) : Obj := Obj.mk (vt "type") none (Data.cls (ClassData.mk "NameRef" [vt "object"] [vr 138, vt "object"] 137 "NameRef" true [] [] false none false)) #[none, none, some (vs "NameRef" 347), some (vs "NameRef" 355), some (vb "object.__new__"), some (Value.bool true)]
noncomputable def ob93 (P : Params) : Obj := Obj.mk (vt "getset_descriptor") none (Data.fields #[vs "__dict__" 373, vr 138, vb "function.__dict__", vb "function.__dict__#set"]) #[]
noncomputable def ob94 (P : Params) : Obj := Obj.mk (vt "getset_descriptor") none (Data.fields #[vs "__weakref__" 375, vr 138, vb "ExceptionGroup.__weakref__", vn]) #[]
noncomputable def ob95 (P : Params) : Obj := Obj.mk (vt "super") none (Data.fields #[vr 138, vr 138, vr 138]) #[]
noncomputable def ob96 (P : Params) : Obj := Obj.mk (vt "builtin_function_or_method") none (Data.fields #[vb "object.__init_subclass__", vr 138]) #[]
noncomputable def ob97 (P : Params) : Obj := Obj.mk (vt "tuple") none (Data.seq #[vs "value" 383]) #[]
noncomputable def ob98 (P : Params) : Obj := Obj.mk vn none (Data.func (FuncData.mk "is_fail" "is_fail" (prm (f1 11)) (FuncBody.stmts (bdy (f1 11))) (scp (f1 11)) 0 [] vn vn vn vn none vn vn 0)) #[]
noncomputable def ob99 (P : Params) : Obj := Obj.mk (vt "code") none (Data.fields #[vs "is_fail" 380, vs "is_fail" 381, vs "/claim/cut.py" 382, vi 40 0, vi 1 0, vi 0 0, vi 0 0, vi 3 0, vr 143, Value.bool true, vi 181 0, vr 144, vn, vr 145, vr 146, vr 147, vi 384 0, vi 40 0, vs "/claim/cut.py" 385]) #[]
noncomputable def ob100 (P : Params) : Obj := Obj.mk (vt "function") none (Data.func (FuncData.mk "is_fail" "is_fail" (prm (f1 11)) (FuncBody.stmts (bdy (f1 11))) (scp (f1 11)) 3 [] vn vn vn (vs "snobol.values" 233) none (vr 148) vn 0)) #[]
noncomputable def ob101 (P : Params) : Obj := Obj.mk (vt "tuple") none (Data.seq #[vs "number" 390, vs "width" 391]) #[]
noncomputable def ob102 (P : Params) : Obj := Obj.mk vn none (Data.func (FuncData.mk "fits" "fits" (prm (f1 12)) (FuncBody.stmts (bdy (f1 12))) (scp (f1 12)) 0 [] vn vn vn vn none vn vn 0)) #[]
noncomputable def ob103 (P : Params) : Obj := Obj.mk (vt "code") none (Data.fields #[vs "fits" 387, vs "fits" 388, vs "/claim/cut.py" 389, vi 42 0, vi 2 0, vi 0 0, vi 0 0, vi 3 0, vr 150, Value.bool true, vi 181 0, vr 151, vn, vr 152, vr 153, vr 154, vi 392 0, vi 42 0, vs "/claim/cut.py" 393]) #[]
noncomputable def ob104 (P : Params) : Obj := Obj.mk (vt "function") none (Data.func (FuncData.mk "fits" "fits" (prm (f1 12)) (FuncBody.stmts (bdy (f1 12))) (scp (f1 12)) 3 [] vn vn vn (vs "snobol.values" 233) none (vr 155) vn 0)) #[]
noncomputable def ob105 (P : Params) : Obj := Obj.mk (vt "tuple") none (Data.seq #[vs "text" 398, vs "width" 399, vs "digits" 400, vs "number" 401, vs "sign" 402]) #[]
noncomputable def ob106 (P : Params) : Obj := Obj.mk vn none (Data.func (FuncData.mk "whole_of_text" "whole_of_text" (prm (f1 13)) (FuncBody.stmts (bdy (f1 13))) (scp (f1 13)) 0 [] vn vn vn vn none vn vn 0)) #[]
noncomputable def ob107 (P : Params) : Obj := Obj.mk (vt "code") none (Data.fields #[vs "whole_of_text" 395, vs "whole_of_text" 396, vs "/claim/cut.py" 397, vi 44 0, vi 2 0, vi 0 0, vi 0 0, vi 3 0, vr 157, Value.bool true, vi 181 0, vr 158, vn, vr 159, vr 160, vr 161, vi 403 0, vi 44 0, vs "/claim/cut.py" 404]) #[]
noncomputable def ob108 (P : Params) : Obj := Obj.mk (vt "function") none (Data.func (FuncData.mk "whole_of_text" "whole_of_text" (prm (f1 13)) (FuncBody.stmts (bdy (f1 13))) (scp (f1 13)) 3 [] vn vn vn (vs "snobol.values" 233) none (vr 162) vn 0)) #[]
noncomputable def ob109 (P : Params) : Obj := Obj.mk (vt "tuple") none (Data.seq #[vs "number" 409, vs "left" 410, vs "found" 411]) #[]
noncomputable def ob110 (P : Params) : Obj := Obj.mk vn none (Data.func (FuncData.mk "text_of_whole" "text_of_whole" (prm (f1 14)) (FuncBody.stmts (bdy (f1 14))) (scp (f1 14)) 0 [] vn vn vn vn none vn vn 0)) #[]
noncomputable def ob111 (P : Params) : Obj := Obj.mk (vt "code") none (Data.fields #[vs "text_of_whole" 406, vs "text_of_whole" 407, vs "/claim/cut.py" 408, vi 57 0, vi 1 0, vi 0 0, vi 0 0, vi 3 0, vr 164, Value.bool true, vi 181 0, vr 165, vn, vr 166, vr 167, vr 168, vi 412 0, vi 57 0, vs "/claim/cut.py" 413]) #[]
noncomputable def ob112 (P : Params) : Obj := Obj.mk (vt "function") none (Data.func (FuncData.mk "text_of_whole" "text_of_whole" (prm (f1 14)) (FuncBody.stmts (bdy (f1 14))) (scp (f1 14)) 3 [] vn vn vn (vs "snobol.values" 233) none (vr 169) vn 0)) #[]
noncomputable def ob113 (P : Params) : Obj := Obj.mk (vt "tuple") none (Data.seq #[vs "value" 418, vs "width" 419]) #[]
noncomputable def ob114 (P : Params) : Obj := Obj.mk vn none (Data.func (FuncData.mk "to_whole" "to_whole" (prm (f1 15)) (FuncBody.stmts (bdy (f1 15))) (scp (f1 15)) 0 [] vn vn vn vn none vn vn 0)) #[]
noncomputable def ob115 (P : Params) : Obj := Obj.mk (vt "code") none (Data.fields #[vs "to_whole" 415, vs "to_whole" 416, vs "/claim/cut.py" 417, vi 63 0, vi 2 0, vi 0 0, vi 0 0, vi 3 0, vr 171, Value.bool true, vi 181 0, vr 172, vn, vr 173, vr 174, vr 175, vi 420 0, vi 63 0, vs "/claim/cut.py" 421]) #[]
noncomputable def ob116 (P : Params) : Obj := Obj.mk (vt "function") none (Data.func (FuncData.mk "to_whole" "to_whole" (prm (f1 15)) (FuncBody.stmts (bdy (f1 15))) (scp (f1 15)) 3 [] vn vn vn (vs "snobol.values" 233) none (vr 176) vn 0)) #[]
noncomputable def ob117 (P : Params) : Obj := Obj.mk (vt "tuple") none (Data.seq #[vs "value" 426]) #[]
noncomputable def ob118 (P : Params) : Obj := Obj.mk vn none (Data.func (FuncData.mk "to_text" "to_text" (prm (f1 16)) (FuncBody.stmts (bdy (f1 16))) (scp (f1 16)) 0 [] vn vn vn vn none vn vn 0)) #[]
noncomputable def ob119 (P : Params) : Obj := Obj.mk (vt "code") none (Data.fields #[vs "to_text" 423, vs "to_text" 424, vs "/claim/cut.py" 425, vi 67 0, vi 1 0, vi 0 0, vi 0 0, vi 3 0, vr 178, Value.bool true, vi 181 0, vr 179, vn, vr 180, vr 181, vr 182, vi 427 0, vi 67 0, vs "/claim/cut.py" 428]) #[]
noncomputable def ob120 (P : Params) : Obj := Obj.mk (vt "function") none (Data.func (FuncData.mk "to_text" "to_text" (prm (f1 16)) (FuncBody.stmts (bdy (f1 16))) (scp (f1 16)) 3 [] vn vn vn (vs "snobol.values" 233) none (vr 183) vn 0)) #[]
noncomputable def ob121 (P : Params) : Obj := Obj.mk (vt "tuple") none (Data.seq #[vs "value" 433, vs "text" 434]) #[]
noncomputable def ob122 (P : Params) : Obj := Obj.mk vn none (Data.func (FuncData.mk "need_text" "need_text" (prm (f1 17)) (FuncBody.stmts (bdy (f1 17))) (scp (f1 17)) 0 [] vn vn vn vn none vn vn 0)) #[]
noncomputable def ob123 (P : Params) : Obj := Obj.mk (vt "code") none (Data.fields #[vs "need_text" 430, vs "need_text" 431, vs "/claim/cut.py" 432, vi 71 0, vi 1 0, vi 0 0, vi 0 0, vi 3 0, vr 185, Value.bool true, vi 181 0, vr 186, vn, vr 187, vr 188, vr 189, vi 435 0, vi 71 0, vs "/claim/cut.py" 436]) #[]
noncomputable def ob124 (P : Params) : Obj := Obj.mk (vt "function") none (Data.func (FuncData.mk "need_text" "need_text" (prm (f1 17)) (FuncBody.stmts (bdy (f1 17))) (scp (f1 17)) 3 [] vn vn vn (vs "snobol.values" 233) none (vr 190) vn 0)) #[]
noncomputable def ob125 (P : Params) : Obj := Obj.mk (vt "dict") none (Data.dict #[de P "__module__" 447 (vs "snobol.hosts" 438), de P "__qualname__" 449 (vs "PlainHost" 448), de P "__firstlineno__" 451 (vi 77 450), de P "__init__" 461 (vr 205), de P "value_of" 469 (vr 212), de P "assign" 478 (vr 219), de P "step" 485 (vr 226), de P "__static_attributes__" 492 (vr 227)] 8) #[]
noncomputable def ob126 (P : Params) : Obj := Obj.mk vn none (Data.fields #[vi 79 0, vi 4 0, vr 204, vi 87 0, vi 4 0, vr 211, vi 92 0, vi 4 0, vr 218, vi 99 0, vi 4 0, vr 225]) #[]
noncomputable def ob127 (P : Params) : Obj := Obj.mk (vt "code") none (Data.fields #[vs "PlainHost" 442, vs "PlainHost" 443, vs "/claim/cut.py" 444, vi 77 0, vi 0 0, vi 0 0, vi 0 0, vi 0 0, vr 195, Value.bool false, vi 181 0, vr 196, vn, vn, vn, vn, vi 445 0, vi 77 0, vs "/claim/cut.py" 446]) #[]
noncomputable def ob128 (P : Params) : Obj := Obj.mk (vt "frame") none Data.plain #[some (vr 197), some (vr 3), some (vr 194), none, some (vs "snobol.hosts" 438), none, some (vr 0)]
noncomputable def ob129 (P : Params) : Obj := Obj.mk (vt "tuple") none (Data.seq #[vs "self" 455, vs "values" 456, vs "limit" 457, vs "refused" 458]) #[]
noncomputable def ob130 (P : Params) : Obj := Obj.mk vn none (Data.func (FuncData.mk "__init__" "PlainHost.__init__" (prm (f2 19 0)) (FuncBody.stmts (bdy (f2 19 0))) (scp (f2 19 0)) 0 [] vn vn vn vn none vn vn 0)) #[]
noncomputable def ob131 (P : Params) : Obj := Obj.mk (vt "code") none (Data.fields #[vs "__init__" 452, vs "PlainHost.__init__" 453, vs "/claim/cut.py" 454, vi 79 0, vi 4 0, vi 0 0, vi 0 0, vi 3 0, vr 199, Value.bool true, vi 181 0, vr 200, vn, vr 201, vr 202, vr 203, vi 459 0, vi 79 0, vs "/claim/cut.py" 460]) #[]
noncomputable def ob132 (P : Params) : Obj := Obj.mk (vt "function") none (Data.func (FuncData.mk "__init__" "PlainHost.__init__" (prm (f2 19 0)) (FuncBody.stmts (bdy (f2 19 0))) (scp (f2 19 0)) 3 [] vn vn vn (vs "snobol.hosts" 438) none (vr 204) vn 0)) #[]
noncomputable def ob133 (P : Params) : Obj := Obj.mk (vt "tuple") none (Data.seq #[vs "self" 465, vs "tree" 466]) #[]
noncomputable def ob134 (P : Params) : Obj := Obj.mk vn none (Data.func (FuncData.mk "value_of" "PlainHost.value_of" (prm (f2 19 1)) (FuncBody.stmts (bdy (f2 19 1))) (scp (f2 19 1)) 0 [] vn vn vn vn none vn vn 0)) #[]
noncomputable def ob135 (P : Params) : Obj := Obj.mk (vt "code") none (Data.fields #[vs "value_of" 462, vs "PlainHost.value_of" 463, vs "/claim/cut.py" 464, vi 87 0, vi 2 0, vi 0 0, vi 0 0, vi 3 0, vr 206, Value.bool true, vi 181 0, vr 207, vn, vr 208, vr 209, vr 210, vi 467 0, vi 87 0, vs "/claim/cut.py" 468]) #[]
noncomputable def ob136 (P : Params) : Obj := Obj.mk (vt "function") none (Data.func (FuncData.mk "value_of" "PlainHost.value_of" (prm (f2 19 1)) (FuncBody.stmts (bdy (f2 19 1))) (scp (f2 19 1)) 3 [] vn vn vn (vs "snobol.hosts" 438) none (vr 211) vn 0)) #[]
noncomputable def ob137 (P : Params) : Obj := Obj.mk (vt "tuple") none (Data.seq #[vs "self" 473, vs "ref" 474, vs "value" 475]) #[]
noncomputable def ob138 (P : Params) : Obj := Obj.mk vn none (Data.func (FuncData.mk "assign" "PlainHost.assign" (prm (f2 19 2)) (FuncBody.stmts (bdy (f2 19 2))) (scp (f2 19 2)) 0 [] vn vn vn vn none vn vn 0)) #[]
noncomputable def ob139 (P : Params) : Obj := Obj.mk (vt "code") none (Data.fields #[vs "assign" 470, vs "PlainHost.assign" 471, vs "/claim/cut.py" 472, vi 92 0, vi 3 0, vi 0 0, vi 0 0, vi 3 0, vr 213, Value.bool true, vi 181 0, vr 214, vn, vr 215, vr 216, vr 217, vi 476 0, vi 92 0, vs "/claim/cut.py" 477]) #[]
noncomputable def ob140 (P : Params) : Obj := Obj.mk (vt "function") none (Data.func (FuncData.mk "assign" "PlainHost.assign" (prm (f2 19 2)) (FuncBody.stmts (bdy (f2 19 2))) (scp (f2 19 2)) 3 [] vn vn vn (vs "snobol.hosts" 438) none (vr 218) vn 0)) #[]
noncomputable def ob141 (P : Params) : Obj := Obj.mk (vt "tuple") none (Data.seq #[vs "self" 482]) #[]
noncomputable def ob142 (P : Params) : Obj := Obj.mk vn none (Data.func (FuncData.mk "step" "PlainHost.step" (prm (f2 19 3)) (FuncBody.stmts (bdy (f2 19 3))) (scp (f2 19 3)) 0 [] vn vn vn vn none vn vn 0)) #[]
noncomputable def ob143 (P : Params) : Obj := Obj.mk (vt "code") none (Data.fields #[vs "step" 479, vs "PlainHost.step" 480, vs "/claim/cut.py" 481, vi 99 0, vi 1 0, vi 0 0, vi 0 0, vi 3 0, vr 220, Value.bool true, vi 181 0, vr 221, vn, vr 222, vr 223, vr 224, vi 483 0, vi 99 0, vs "/claim/cut.py" 484]) #[]
noncomputable def ob144 (P : Params) : Obj := Obj.mk (vt "function") none (Data.func (FuncData.mk "step" "PlainHost.step" (prm (f2 19 3)) (FuncBody.stmts (bdy (f2 19 3))) (scp (f2 19 3)) 3 [] vn vn vn (vs "snobol.hosts" 438) none (vr 225) vn 0)) #[]
noncomputable def ob145 (P : Params) : Obj := Obj.mk (vt "tuple") none (Data.seq #[vs "limit" 486, vs "log" 487, vs "refused" 488, vs "steps" 489, vs "values" 490, vs "width" 491]) #[]
noncomputable def ob146 (P : Params) : Obj := Obj.mk (vt "dict") none (Data.dict #[de P "__module__" 447 (vs "snobol.hosts" 438), de P "__firstlineno__" 451 (vi 77 450), de P "__init__" 461 (vr 205), de P "value_of" 469 (vr 212), de P "assign" 478 (vr 219), de P "step" 485 (vr 226), de P "__static_attributes__" 492 (vr 227), de P "__dict__" 494 (vr 230), de P "__weakref__" 496 (vr 231), de P "__doc__" 497 vn] 4) #[]
noncomputable def ob147 (P : Params) : Obj := Obj.mk (vt "type") none (Data.cls (ClassData.mk "PlainHost" [vt "object"] [vr 229, vt "object"] 228 "PlainHost" true [] [] false none false)) #[none, none, some (vs "PlainHost" 440), some (vs "PlainHost" 448), some (vb "object.__new__"), some (Value.bool true)]
noncomputable def ob148 (P : Params) : Obj := Obj.mk (vt "getset_descriptor") none (Data.fields #[vs "__dict__" 493, vr 229, vb "function.__dict__", vb "function.__dict__#set"]) #[]
noncomputable def ob149 (P : Params) : Obj := Obj.mk (vt "getset_descriptor") none (Data.fields #[vs "__weakref__" 495, vr 229, vb "ExceptionGroup.__weakref__", vn]) #[]
noncomputable def ob150 (P : Params) : Obj := Obj.mk (vt "super") none (Data.fields #[vr 229, vr 229, vr 229]) #[]
noncomputable def ob151 (P : Params) : Obj := Obj.mk (vt "builtin_function_or_method") none (Data.fields #[vb "object.__init_subclass__", vr 229]) #[]
noncomputable def ob152 (P : Params) : Obj := Obj.mk (vt "tuple") none (Data.seq #[vs "len" 502, vs "pos" 503, vs "rpos" 504, vs "tab" 505, vs "rtab" 506]) #[]
noncomputable def ob153 (P : Params) : Obj := Obj.mk (vt "tuple") none (Data.seq #[vs "any" 508, vs "notany" 509, vs "span" 510, vs "break" 511]) #[]
noncomputable def ob154 (P : Params) : Obj := Obj.mk (vt "tuple") none (Data.seq #[vi 64 513]) #[]
noncomputable def ob155 (P : Params) : Obj := Obj.mk (vt "tuple") none (Data.seq #[vs "value" 518, vs "kind" 519, vs "width" 520, vs "count" 521]) #[]
noncomputable def ob156 (P : Params) : Obj := Obj.mk vn none (Data.func (FuncData.mk "plain_count" "plain_count" (prm (f1 24)) (FuncBody.stmts (bdy (f1 24))) (scp (f1 24)) 0 [] vn vn vn vn none vn vn 0)) #[]
noncomputable def ob157 (P : Params) : Obj := Obj.mk (vt "code") none (Data.fields #[vs "plain_count" 515, vs "plain_count" 516, vs "/claim/cut.py" 517, vi 107 0, vi 3 0, vi 0 0, vi 0 0, vi 3 0, vr 237, Value.bool true, vi 181 0, vr 238, vn, vr 239, vr 240, vr 241, vi 522 0, vi 107 0, vs "/claim/cut.py" 523]) #[]
noncomputable def ob158 (P : Params) : Obj := Obj.mk (vt "function") none (Data.func (FuncData.mk "plain_count" "plain_count" (prm (f1 24)) (FuncBody.stmts (bdy (f1 24))) (scp (f1 24)) 3 [] (vr 236) vn vn (vs "snobol.nodes" 500) none (vr 242) vn 0)) #[]
noncomputable def ob159 (P : Params) : Obj := Obj.mk (vt "tuple") none (Data.seq #[vs "value" 528, vs "kind" 529, vs "text" 530]) #[]
noncomputable def ob160 (P : Params) : Obj := Obj.mk vn none (Data.func (FuncData.mk "plain_signs" "plain_signs" (prm (f1 25)) (FuncBody.stmts (bdy (f1 25))) (scp (f1 25)) 0 [] vn vn vn vn none vn vn 0)) #[]
noncomputable def ob161 (P : Params) : Obj := Obj.mk (vt "code") none (Data.fields #[vs "plain_signs" 525, vs "plain_signs" 526, vs "/claim/cut.py" 527, vi 114 0, vi 2 0, vi 0 0, vi 0 0, vi 3 0, vr 244, Value.bool true, vi 181 0, vr 245, vn, vr 246, vr 247, vr 248, vi 531 0, vi 114 0, vs "/claim/cut.py" 532]) #[]
noncomputable def ob162 (P : Params) : Obj := Obj.mk (vt "function") none (Data.func (FuncData.mk "plain_signs" "plain_signs" (prm (f1 25)) (FuncBody.stmts (bdy (f1 25))) (scp (f1 25)) 3 [] vn vn vn (vs "snobol.nodes" 500) none (vr 249) vn 0)) #[]
noncomputable def ob163 (P : Params) : Obj := Obj.mk (vt "tuple") none (Data.seq #[vs "value" 537, vs "text" 538]) #[]
noncomputable def ob164 (P : Params) : Obj := Obj.mk vn none (Data.func (FuncData.mk "pattern_of" "pattern_of" (prm (f1 26)) (FuncBody.stmts (bdy (f1 26))) (scp (f1 26)) 0 [] vn vn vn vn none vn vn 0)) #[]
noncomputable def ob165 (P : Params) : Obj := Obj.mk (vt "code") none (Data.fields #[vs "pattern_of" 534, vs "pattern_of" 535, vs "/claim/cut.py" 536, vi 119 0, vi 1 0, vi 0 0, vi 0 0, vi 3 0, vr 251, Value.bool true, vi 181 0, vr 252, vn, vr 253, vr 254, vr 255, vi 539 0, vi 119 0, vs "/claim/cut.py" 540]) #[]
noncomputable def ob166 (P : Params) : Obj := Obj.mk (vt "function") none (Data.func (FuncData.mk "pattern_of" "pattern_of" (prm (f1 26)) (FuncBody.stmts (bdy (f1 26))) (scp (f1 26)) 3 [] vn vn vn (vs "snobol.nodes" 500) none (vr 256) vn 0)) #[]
noncomputable def ob167 (P : Params) : Obj := Obj.mk (vt "tuple") none (Data.seq #[vs "told" 545]) #[]
noncomputable def ob168 (P : Params) : Obj := Obj.mk vn none (Data.func (FuncData.mk "is_delayed" "is_delayed" (prm (f1 27)) (FuncBody.stmts (bdy (f1 27))) (scp (f1 27)) 0 [] vn vn vn vn none vn vn 0)) #[]
noncomputable def ob169 (P : Params) : Obj := Obj.mk (vt "code") none (Data.fields #[vs "is_delayed" 542, vs "is_delayed" 543, vs "/claim/cut.py" 544, vi 128 0, vi 1 0, vi 0 0, vi 0 0, vi 3 0, vr 258, Value.bool true, vi 181 0, vr 259, vn, vr 260, vr 261, vr 262, vi 546 0, vi 128 0, vs "/claim/cut.py" 547]) #[]
noncomputable def ob170 (P : Params) : Obj := Obj.mk (vt "function") none (Data.func (FuncData.mk "is_delayed" "is_delayed" (prm (f1 27)) (FuncBody.stmts (bdy (f1 27))) (scp (f1 27)) 3 [] vn vn vn (vs "snobol.nodes" 500) none (vr 263) vn 0)) #[]
noncomputable def ob171 (P : Params) : Obj := Obj.mk (vt "tuple") none (Data.seq #[vs "node" 552, vs "host" 553, vs "value" 554]) #[]
noncomputable def ob172 (P : Params) : Obj := Obj.mk vn none (Data.func (FuncData.mk "settled" "settled" (prm (f1 28)) (FuncBody.stmts (bdy (f1 28))) (scp (f1 28)) 0 [] vn vn vn vn none vn vn 0)) #[]
noncomputable def ob173 (P : Params) : Obj := Obj.mk (vt "code") none (Data.fields #[vs "settled" 549, vs "settled" 550, vs "/claim/cut.py" 551, vi 130 0, vi 2 0, vi 0 0, vi 0 0, vi 3 0, vr 265, Value.bool true, vi 181 0, vr 266, vn, vr 267, vr 268, vr 269, vi 555 0, vi 130 0, vs "/claim/cut.py" 556]) #[]
noncomputable def ob174 (P : Params) : Obj := Obj.mk (vt "function") none (Data.func (FuncData.mk "settled" "settled" (prm (f1 28)) (FuncBody.stmts (bdy (f1 28))) (scp (f1 28)) 3 [] vn vn vn (vs "snobol.nodes" 500) none (vr 270) vn 0)) #[]
noncomputable def ob175 (P : Params) : Obj := Obj.mk (vt "tuple") none (Data.seq #[vs "subject" 567, vs "at" 568, vs "text" 569, vs "end" 570]) #[]
noncomputable def ob176 (P : Params) : Obj := Obj.mk vn none (Data.func (FuncData.mk "chars_end" "chars_end" (prm (f1 32)) (FuncBody.stmts (bdy (f1 32))) (scp (f1 32)) 0 [] vn vn vn vn none vn vn 0)) #[]
noncomputable def ob177 (P : Params) : Obj := Obj.mk (vt "code") none (Data.fields #[vs "chars_end" 564, vs "chars_end" 565, vs "/claim/cut.py" 566, vi 142 0, vi 3 0, vi 0 0, vi 0 0, vi 3 0, vr 272, Value.bool true, vi 181 0, vr 273, vn, vr 274, vr 275, vr 276, vi 571 0, vi 142 0, vs "/claim/cut.py" 572]) #[]
noncomputable def ob178 (P : Params) : Obj := Obj.mk (vt "function") none (Data.func (FuncData.mk "chars_end" "chars_end" (prm (f1 32)) (FuncBody.stmts (bdy (f1 32))) (scp (f1 32)) 3 [] vn vn vn (vs "snobol.primitives" 558) none (vr 277) vn 0)) #[]
noncomputable def ob179 (P : Params) : Obj := Obj.mk (vt "tuple") none (Data.seq #[vs "subject" 577, vs "at" 578, vs "many" 579]) #[]
noncomputable def ob180 (P : Params) : Obj := Obj.mk vn none (Data.func (FuncData.mk "len_end" "len_end" (prm (f1 33)) (FuncBody.stmts (bdy (f1 33))) (scp (f1 33)) 0 [] vn vn vn vn none vn vn 0)) #[]
noncomputable def ob181 (P : Params) : Obj := Obj.mk (vt "code") none (Data.fields #[vs "len_end" 574, vs "len_end" 575, vs "/claim/cut.py" 576, vi 145 0, vi 3 0, vi 0 0, vi 0 0, vi 3 0, vr 279, Value.bool true, vi 181 0, vr 280, vn, vr 281, vr 282, vr 283, vi 580 0, vi 145 0, vs "/claim/cut.py" 581]) #[]
noncomputable def ob182 (P : Params) : Obj := Obj.mk (vt "function") none (Data.func (FuncData.mk "len_end" "len_end" (prm (f1 33)) (FuncBody.stmts (bdy (f1 33))) (scp (f1 33)) 3 [] vn vn vn (vs "snobol.primitives" 558) none (vr 284) vn 0)) #[]
noncomputable def ob183 (P : Params) : Obj := Obj.mk (vt "tuple") none (Data.seq #[vs "at" 586, vs "place" 587]) #[]
noncomputable def ob184 (P : Params) : Obj := Obj.mk vn none (Data.func (FuncData.mk "pos_end" "pos_end" (prm (f1 34)) (FuncBody.stmts (bdy (f1 34))) (scp (f1 34)) 0 [] vn vn vn vn none vn vn 0)) #[]
noncomputable def ob185 (P : Params) : Obj := Obj.mk (vt "code") none (Data.fields #[vs "pos_end" 583, vs "pos_end" 584, vs "/claim/cut.py" 585, vi 147 0, vi 2 0, vi 0 0, vi 0 0, vi 3 0, vr 286, Value.bool true, vi 181 0, vr 287, vn, vr 288, vr 289, vr 290, vi 588 0, vi 147 0, vs "/claim/cut.py" 589]) #[]
noncomputable def ob186 (P : Params) : Obj := Obj.mk (vt "function") none (Data.func (FuncData.mk "pos_end" "pos_end" (prm (f1 34)) (FuncBody.stmts (bdy (f1 34))) (scp (f1 34)) 3 [] vn vn vn (vs "snobol.primitives" 558) none (vr 291) vn 0)) #[]
noncomputable def ob187 (P : Params) : Obj := Obj.mk (vt "tuple") none (Data.seq #[vs "subject" 594, vs "at" 595, vs "place" 596]) #[]
noncomputable def ob188 (P : Params) : Obj := Obj.mk vn none (Data.func (FuncData.mk "rpos_end" "rpos_end" (prm (f1 35)) (FuncBody.stmts (bdy (f1 35))) (scp (f1 36)) 0 [] vn vn vn vn none vn vn 0)) #[]
noncomputable def ob189 (P : Params) : Obj := Obj.mk (vt "code") none (Data.fields #[vs "rpos_end" 591, vs "rpos_end" 592, vs "/claim/cut.py" 593, vi 149 0, vi 3 0, vi 0 0, vi 0 0, vi 3 0, vr 293, Value.bool true, vi 181 0, vr 294, vn, vr 295, vr 296, vr 297, vi 597 0, vi 149 0, vs "/claim/cut.py" 598]) #[]
noncomputable def ob190 (P : Params) : Obj := Obj.mk (vt "function") none (Data.func (FuncData.mk "rpos_end" "rpos_end" (prm (f1 35)) (FuncBody.stmts (bdy (f1 35))) (scp (f1 36)) 3 [] vn vn vn (vs "snobol.primitives" 558) none (vr 298) vn 0)) #[]
noncomputable def ob191 (P : Params) : Obj := Obj.mk (vt "tuple") none (Data.seq #[vs "subject" 603, vs "at" 604, vs "place" 605]) #[]
noncomputable def ob192 (P : Params) : Obj := Obj.mk vn none (Data.func (FuncData.mk "tab_end" "tab_end" (prm (f1 36)) (FuncBody.stmts (bdy (f1 36))) (scp (f1 36)) 0 [] vn vn vn vn none vn vn 0)) #[]
noncomputable def ob193 (P : Params) : Obj := Obj.mk (vt "code") none (Data.fields #[vs "tab_end" 600, vs "tab_end" 601, vs "/claim/cut.py" 602, vi 151 0, vi 3 0, vi 0 0, vi 0 0, vi 3 0, vr 300, Value.bool true, vi 181 0, vr 301, vn, vr 302, vr 303, vr 304, vi 606 0, vi 151 0, vs "/claim/cut.py" 607]) #[]
noncomputable def ob194 (P : Params) : Obj := Obj.mk (vt "function") none (Data.func (FuncData.mk "tab_end" "tab_end" (prm (f1 36)) (FuncBody.stmts (bdy (f1 36))) (scp (f1 36)) 3 [] vn vn vn (vs "snobol.primitives" 558) none (vr 305) vn 0)) #[]
noncomputable def ob195 (P : Params) : Obj := Obj.mk (vt "tuple") none (Data.seq #[vs "subject" 612, vs "at" 613, vs "place" 614, vs "goal" 615]) #[]
noncomputable def ob196 (P : Params) : Obj := Obj.mk vn none (Data.func (FuncData.mk "rtab_end" "rtab_end" (prm (f1 37)) (FuncBody.stmts (bdy (f1 37))) (scp (f1 37)) 0 [] vn vn vn vn none vn vn 0)) #[]
noncomputable def ob197 (P : Params) : Obj := Obj.mk (vt "code") none (Data.fields #[vs "rtab_end" 609, vs "rtab_end" 610, vs "/claim/cut.py" 611, vi 153 0, vi 3 0, vi 0 0, vi 0 0, vi 3 0, vr 307, Value.bool true, vi 181 0, vr 308, vn, vr 309, vr 310, vr 311, vi 616 0, vi 153 0, vs "/claim/cut.py" 617]) #[]
noncomputable def ob198 (P : Params) : Obj := Obj.mk (vt "function") none (Data.func (FuncData.mk "rtab_end" "rtab_end" (prm (f1 37)) (FuncBody.stmts (bdy (f1 37))) (scp (f1 37)) 3 [] vn vn vn (vs "snobol.primitives" 558) none (vr 312) vn 0)) #[]
noncomputable def ob199 (P : Params) : Obj := Obj.mk (vt "tuple") none (Data.seq #[vs "subject" 622]) #[]
noncomputable def ob200 (P : Params) : Obj := Obj.mk vn none (Data.func (FuncData.mk "rem_end" "rem_end" (prm (f1 38)) (FuncBody.stmts (bdy (f1 38))) (scp (f1 38)) 0 [] vn vn vn vn none vn vn 0)) #[]
noncomputable def ob201 (P : Params) : Obj := Obj.mk (vt "code") none (Data.fields #[vs "rem_end" 619, vs "rem_end" 620, vs "/claim/cut.py" 621, vi 156 0, vi 1 0, vi 0 0, vi 0 0, vi 3 0, vr 314, Value.bool true, vi 181 0, vr 315, vn, vr 316, vr 317, vr 318, vi 623 0, vi 156 0, vs "/claim/cut.py" 624]) #[]
noncomputable def ob202 (P : Params) : Obj := Obj.mk (vt "function") none (Data.func (FuncData.mk "rem_end" "rem_end" (prm (f1 38)) (FuncBody.stmts (bdy (f1 38))) (scp (f1 38)) 3 [] vn vn vn (vs "snobol.primitives" 558) none (vr 319) vn 0)) #[]
noncomputable def ob203 (P : Params) : Obj := Obj.mk (vt "tuple") none (Data.seq #[vs "subject" 629, vs "at" 630, vs "signs" 631]) #[]
noncomputable def ob204 (P : Params) : Obj := Obj.mk vn none (Data.func (FuncData.mk "any_at" "any_at" (prm (f1 39)) (FuncBody.stmts (bdy (f1 39))) (scp (f1 40)) 0 [] vn vn vn vn none vn vn 0)) #[]
noncomputable def ob205 (P : Params) : Obj := Obj.mk (vt "code") none (Data.fields #[vs "any_at" 626, vs "any_at" 627, vs "/claim/cut.py" 628, vi 158 0, vi 3 0, vi 0 0, vi 0 0, vi 3 0, vr 321, Value.bool true, vi 181 0, vr 322, vn, vr 323, vr 324, vr 325, vi 632 0, vi 158 0, vs "/claim/cut.py" 633]) #[]
noncomputable def ob206 (P : Params) : Obj := Obj.mk (vt "function") none (Data.func (FuncData.mk "any_at" "any_at" (prm (f1 39)) (FuncBody.stmts (bdy (f1 39))) (scp (f1 40)) 3 [] vn vn vn (vs "snobol.primitives" 558) none (vr 326) vn 0)) #[]
noncomputable def ob207 (P : Params) : Obj := Obj.mk (vt "tuple") none (Data.seq #[vs "subject" 638, vs "at" 639, vs "signs" 640]) #[]
noncomputable def ob208 (P : Params) : Obj := Obj.mk vn none (Data.func (FuncData.mk "notany_at" "notany_at" (prm (f1 40)) (FuncBody.stmts (bdy (f1 40))) (scp (f1 40)) 0 [] vn vn vn vn none vn vn 0)) #[]
noncomputable def ob209 (P : Params) : Obj := Obj.mk (vt "code") none (Data.fields #[vs "notany_at" 635, vs "notany_at" 636, vs "/claim/cut.py" 637, vi 160 0, vi 3 0, vi 0 0, vi 0 0, vi 3 0, vr 328, Value.bool true, vi 181 0, vr 329, vn, vr 330, vr 331, vr 332, vi 641 0, vi 160 0, vs "/claim/cut.py" 642]) #[]
noncomputable def ob210 (P : Params) : Obj := Obj.mk (vt "function") none (Data.func (FuncData.mk "notany_at" "notany_at" (prm (f1 40)) (FuncBody.stmts (bdy (f1 40))) (scp (f1 40)) 3 [] vn vn vn (vs "snobol.primitives" 558) none (vr 333) vn 0)) #[]
noncomputable def ob211 (P : Params) : Obj := Obj.mk (vt "tuple") none (Data.seq #[vs "subject" 647, vs "at" 648, vs "signs" 649, vs "is_in" 650]) #[]
noncomputable def ob212 (P : Params) : Obj := Obj.mk vn none (Data.func (FuncData.mk "run_end" "run_end" (prm (f1 41)) (FuncBody.stmts (bdy (f1 41))) (scp (f1 41)) 0 [] vn vn vn vn none vn vn 0)) #[]
noncomputable def ob213 (P : Params) : Obj := Obj.mk (vt "code") none (Data.fields #[vs "run_end" 644, vs "run_end" 645, vs "/claim/cut.py" 646, vi 162 0, vi 4 0, vi 0 0, vi 0 0, vi 3 0, vr 335, Value.bool true, vi 181 0, vr 336, vn, vr 337, vr 338, vr 339, vi 651 0, vi 162 0, vs "/claim/cut.py" 652]) #[]
noncomputable def ob214 (P : Params) : Obj := Obj.mk (vt "function") none (Data.func (FuncData.mk "run_end" "run_end" (prm (f1 41)) (FuncBody.stmts (bdy (f1 41))) (scp (f1 41)) 3 [] vn vn vn (vs "snobol.primitives" 558) none (vr 340) vn 0)) #[]
noncomputable def ob215 (P : Params) : Obj := Obj.mk (vt "tuple") none (Data.seq #[vs "subject" 657, vs "at" 658, vs "signs" 659, vs "end" 660]) #[]
noncomputable def ob216 (P : Params) : Obj := Obj.mk vn none (Data.func (FuncData.mk "span_end" "span_end" (prm (f1 42)) (FuncBody.stmts (bdy (f1 42))) (scp (f1 42)) 0 [] vn vn vn vn none vn vn 0)) #[]
noncomputable def ob217 (P : Params) : Obj := Obj.mk (vt "code") none (Data.fields #[vs "span_end" 654, vs "span_end" 655, vs "/claim/cut.py" 656, vi 166 0, vi 3 0, vi 0 0, vi 0 0, vi 3 0, vr 342, Value.bool true, vi 181 0, vr 343, vn, vr 344, vr 345, vr 346, vi 661 0, vi 166 0, vs "/claim/cut.py" 662]) #[]
noncomputable def ob218 (P : Params) : Obj := Obj.mk (vt "function") none (Data.func (FuncData.mk "span_end" "span_end" (prm (f1 42)) (FuncBody.stmts (bdy (f1 42))) (scp (f1 42)) 3 [] vn vn vn (vs "snobol.primitives" 558) none (vr 347) vn 0)) #[]
noncomputable def ob219 (P : Params) : Obj := Obj.mk (vt "tuple") none (Data.seq #[vs "subject" 667, vs "at" 668, vs "signs" 669, vs "end" 670]) #[]
noncomputable def ob220 (P : Params) : Obj := Obj.mk vn none (Data.func (FuncData.mk "break_end" "break_end" (prm (f1 43)) (FuncBody.stmts (bdy (f1 43))) (scp (f1 43)) 0 [] vn vn vn vn none vn vn 0)) #[]
noncomputable def ob221 (P : Params) : Obj := Obj.mk (vt "code") none (Data.fields #[vs "break_end" 664, vs "break_end" 665, vs "/claim/cut.py" 666, vi 169 0, vi 3 0, vi 0 0, vi 0 0, vi 3 0, vr 349, Value.bool true, vi 181 0, vr 350, vn, vr 351, vr 352, vr 353, vi 671 0, vi 169 0, vs "/claim/cut.py" 672]) #[]
noncomputable def ob222 (P : Params) : Obj := Obj.mk (vt "function") none (Data.func (FuncData.mk "break_end" "break_end" (prm (f1 43)) (FuncBody.stmts (bdy (f1 43))) (scp (f1 43)) 3 [] vn vn vn (vs "snobol.primitives" 558) none (vr 354) vn 0)) #[]
noncomputable def ob223 (P : Params) : Obj := Obj.mk (vt "tuple") none (Data.seq #[vs "subject" 677, vs "at" 678, vs "level" 679]) #[]
noncomputable def ob224 (P : Params) : Obj := Obj.mk vn none (Data.func (FuncData.mk "bal_end" "bal_end" (prm (f1 44)) (FuncBody.stmts (bdy (f1 44))) (scp (f1 44)) 0 [] vn vn vn vn none vn vn 0)) #[]
noncomputable def ob225 (P : Params) : Obj := Obj.mk (vt "code") none (Data.fields #[vs "bal_end" 674, vs "bal_end" 675, vs "/claim/cut.py" 676, vi 172 0, vi 2 0, vi 0 0, vi 0 0, vi 3 0, vr 356, Value.bool true, vi 181 0, vr 357, vn, vr 358, vr 359, vr 360, vi 680 0, vi 172 0, vs "/claim/cut.py" 681]) #[]
noncomputable def ob226 (P : Params) : Obj := Obj.mk (vt "function") none (Data.func (FuncData.mk "bal_end" "bal_end" (prm (f1 44)) (FuncBody.stmts (bdy (f1 44))) (scp (f1 44)) 3 [] vn vn vn (vs "snobol.primitives" 558) none (vr 361) vn 0)) #[]
noncomputable def ob227 (P : Params) : Obj := Obj.mk (vt "tuple") none (Data.seq #[vs "subject" 686, vs "at" 687, vs "found" 688, vs "end" 689]) #[]
noncomputable def ob228 (P : Params) : Obj := Obj.mk vn none (Data.func (FuncData.mk "bal_ends" "bal_ends" (prm (f1 45)) (FuncBody.stmts (bdy (f1 45))) (scp (f1 45)) 0 [] vn vn vn vn none vn vn 0)) #[]
noncomputable def ob229 (P : Params) : Obj := Obj.mk (vt "code") none (Data.fields #[vs "bal_ends" 683, vs "bal_ends" 684, vs "/claim/cut.py" 685, vi 185 0, vi 2 0, vi 0 0, vi 0 0, vi 3 0, vr 363, Value.bool true, vi 181 0, vr 364, vn, vr 365, vr 366, vr 367, vi 690 0, vi 185 0, vs "/claim/cut.py" 691]) #[]
noncomputable def ob230 (P : Params) : Obj := Obj.mk (vt "function") none (Data.func (FuncData.mk "bal_ends" "bal_ends" (prm (f1 45)) (FuncBody.stmts (bdy (f1 45))) (scp (f1 45)) 3 [] vn vn vn (vs "snobol.primitives" 558) none (vr 368) vn 0)) #[]
noncomputable def ob231 (P : Params) : Obj := Obj.mk (vt "tuple") none (Data.seq #[vs "kind" 696, vs "subject" 697, vs "at" 698, vs "told" 699]) #[]
noncomputable def ob232 (P : Params) : Obj := Obj.mk vn none (Data.func (FuncData.mk "one_end" "one_end" (prm (f1 46)) (FuncBody.stmts (bdy (f1 46))) (scp (f1 46)) 0 [] vn vn vn vn none vn vn 0)) #[]
noncomputable def ob233 (P : Params) : Obj := Obj.mk (vt "code") none (Data.fields #[vs "one_end" 693, vs "one_end" 694, vs "/claim/cut.py" 695, vi 191 0, vi 4 0, vi 0 0, vi 0 0, vi 3 0, vr 370, Value.bool true, vi 181 0, vr 371, vn, vr 372, vr 373, vr 374, vi 700 0, vi 191 0, vs "/claim/cut.py" 701]) #[]
noncomputable def ob234 (P : Params) : Obj := Obj.mk (vt "function") none (Data.func (FuncData.mk "one_end" "one_end" (prm (f1 46)) (FuncBody.stmts (bdy (f1 46))) (scp (f1 46)) 3 [] vn vn vn (vs "snobol.primitives" 558) none (vr 375) vn 0)) #[]
noncomputable def ob235 (P : Params) : Obj := Obj.mk (vt "tuple") none (Data.seq #[vs "node" 706, vs "subject" 707, vs "at" 708]) #[]
noncomputable def ob236 (P : Params) : Obj := Obj.mk vn none (Data.func (FuncData.mk "plain_end" "plain_end" (prm (f1 47)) (FuncBody.stmts (bdy (f1 47))) (scp (f1 47)) 0 [] vn vn vn vn none vn vn 0)) #[]
noncomputable def ob237 (P : Params) : Obj := Obj.mk (vt "code") none (Data.fields #[vs "plain_end" 703, vs "plain_end" 704, vs "/claim/cut.py" 705, vi 211 0, vi 3 0, vi 0 0, vi 0 0, vi 3 0, vr 377, Value.bool true, vi 181 0, vr 378, vn, vr 379, vr 380, vr 381, vi 709 0, vi 211 0, vs "/claim/cut.py" 710]) #[]
noncomputable def ob238 (P : Params) : Obj := Obj.mk (vt "function") none (Data.func (FuncData.mk "plain_end" "plain_end" (prm (f1 47)) (FuncBody.stmts (bdy (f1 47))) (scp (f1 47)) 3 [] vn vn vn (vs "snobol.primitives" 558) none (vr 382) vn 0)) #[]
noncomputable def ob239 (P : Params) : Obj := Obj.mk (vt "tuple") none (Data.seq #[vs "node" 719, vs "subject" 720, vs "is_anchored" 721, vs "host" 722, vs "begin" 723, vs "found" 724]) #[]
noncomputable def ob240 (P : Params) : Obj := Obj.mk vn none (Data.func (FuncData.mk "match_plain" "match_plain" (prm (f1 50)) (FuncBody.stmts (bdy (f1 50))) (scp (f1 50)) 0 [] vn vn vn vn none vn vn 0)) #[]
noncomputable def ob241 (P : Params) : Obj := Obj.mk (vt "code") none (Data.fields #[vs "match_plain" 716, vs "match_plain" 717, vs "/claim/cut.py" 718, vi 215 0, vi 4 0, vi 0 0, vi 0 0, vi 3 0, vr 384, Value.bool true, vi 181 0, vr 385, vn, vr 386, vr 387, vr 388, vi 725 0, vi 215 0, vs "/claim/cut.py" 726]) #[]
noncomputable def ob242 (P : Params) : Obj := Obj.mk (vt "function") none (Data.func (FuncData.mk "match_plain" "match_plain" (prm (f1 50)) (FuncBody.stmts (bdy (f1 50))) (scp (f1 50)) 3 [] vn vn vn (vs "snobol.trial" 712) none (vr 389) vn 0)) #[]
noncomputable def ob243 (P : Params) : Obj := Obj.mk (vt "tuple") none (Data.seq #[vs "node" 731, vs "subject" 732, vs "begin" 733, vs "host" 734, vs "found" 735]) #[]
noncomputable def ob244 (P : Params) : Obj := Obj.mk vn none (Data.func (FuncData.mk "match_at" "match_at" (prm (f1 51)) (FuncBody.stmts (bdy (f1 51))) (scp (f1 51)) 0 [] vn vn vn vn none vn vn 0)) #[]
noncomputable def ob245 (P : Params) : Obj := Obj.mk (vt "code") none (Data.fields #[vs "match_at" 728, vs "match_at" 729, vs "/claim/cut.py" 730, vi 221 0, vi 4 0, vi 0 0, vi 0 0, vi 3 0, vr 391, Value.bool true, vi 181 0, vr 392, vn, vr 393, vr 394, vr 395, vi 736 0, vi 221 0, vs "/claim/cut.py" 737]) #[]
noncomputable def ob246 (P : Params) : Obj := Obj.mk (vt "function") none (Data.func (FuncData.mk "match_at" "match_at" (prm (f1 51)) (FuncBody.stmts (bdy (f1 51))) (scp (f1 51)) 3 [] vn vn vn (vs "snobol.trial" 712) none (vr 396) vn 0)) #[]
noncomputable def ob247 (P : Params) : Obj := Obj.mk (vt "tuple") none (Data.seq #[vs "node" 742, vs "subject" 743, vs "begin" 744, vs "host" 745, vs "pile" 746, vs "way" 747, vs "chain" 748, vs "at" 749, vs "named" 750]) #[]
noncomputable def ob248 (P : Params) : Obj := Obj.mk vn none (Data.func (FuncData.mk "tried" "tried" (prm (f1 52)) (FuncBody.stmts (bdy (f1 52))) (scp (f1 52)) 0 [] vn vn vn vn none vn vn 0)) #[]
noncomputable def ob249 (P : Params) : Obj := Obj.mk (vt "code") none (Data.fields #[vs "tried" 739, vs "tried" 740, vs "/claim/cut.py" 741, vi 224 0, vi 4 0, vi 0 0, vi 0 0, vi 3 0, vr 398, Value.bool true, vi 181 0, vr 399, vn, vr 400, vr 401, vr 402, vi 751 0, vi 224 0, vs "/claim/cut.py" 752]) #[]
noncomputable def ob250 (P : Params) : Obj := Obj.mk (vt "function") none (Data.func (FuncData.mk "tried" "tried" (prm (f1 52)) (FuncBody.stmts (bdy (f1 52))) (scp (f1 52)) 3 [] vn vn vn (vs "snobol.trial" 712) none (vr 403) vn 0)) #[]
noncomputable def ob251 (P : Params) : Obj := Obj.mk (vt "tuple") none (Data.seq #[vs "chain" 757, vs "at" 758, vs "named" 759, vs "subject" 760, vs "pile" 761, vs "host" 762, vs "here" 763, vs "rest" 764, vs "kind" 765, vs "value" 766]) #[]
noncomputable def ob252 (P : Params) : Obj := Obj.mk vn none (Data.func (FuncData.mk "advanced" "advanced" (prm (f1 53)) (FuncBody.stmts (bdy (f1 53))) (scp (f1 53)) 0 [] vn vn vn vn none vn vn 0)) #[]
noncomputable def ob253 (P : Params) : Obj := Obj.mk (vt "code") none (Data.fields #[vs "advanced" 754, vs "advanced" 755, vs "/claim/cut.py" 756, vi 242 0, vi 6 0, vi 0 0, vi 0 0, vi 3 0, vr 405, Value.bool true, vi 181 0, vr 406, vn, vr 407, vr 408, vr 409, vi 767 0, vi 242 0, vs "/claim/cut.py" 768]) #[]
noncomputable def ob254 (P : Params) : Obj := Obj.mk (vt "function") none (Data.func (FuncData.mk "advanced" "advanced" (prm (f1 53)) (FuncBody.stmts (bdy (f1 53))) (scp (f1 53)) 3 [] vn vn vn (vs "snobol.trial" 712) none (vr 410) vn 0)) #[]
noncomputable def ob255 (P : Params) : Obj := Obj.mk (vt "tuple") none (Data.seq #[vs "here" 773, vs "rest" 774, vs "at" 775, vs "named" 776, vs "pile" 777, vs "kind" 778]) #[]
noncomputable def ob256 (P : Params) : Obj := Obj.mk vn none (Data.func (FuncData.mk "led_in" "led_in" (prm (f1 54)) (FuncBody.stmts (bdy (f1 54))) (scp (f1 54)) 0 [] vn vn vn vn none vn vn 0)) #[]
noncomputable def ob257 (P : Params) : Obj := Obj.mk (vt "code") none (Data.fields #[vs "led_in" 770, vs "led_in" 771, vs "/claim/cut.py" 772, vi 257 0, vi 5 0, vi 0 0, vi 0 0, vi 3 0, vr 412, Value.bool true, vi 181 0, vr 413, vn, vr 414, vr 415, vr 416, vi 779 0, vi 257 0, vs "/claim/cut.py" 780]) #[]
noncomputable def ob258 (P : Params) : Obj := Obj.mk (vt "function") none (Data.func (FuncData.mk "led_in" "led_in" (prm (f1 54)) (FuncBody.stmts (bdy (f1 54))) (scp (f1 54)) 3 [] vn vn vn (vs "snobol.trial" 712) none (vr 417) vn 0)) #[]
noncomputable def ob259 (P : Params) : Obj := Obj.mk (vt "tuple") none (Data.seq #[vs "here" 785, vs "rest" 786, vs "at" 787, vs "named" 788, vs "subject" 789, vs "pile" 790, vs "host" 791, vs "kind" 792, vs "told" 793, vs "begin" 794]) #[]
noncomputable def ob260 (P : Params) : Obj := Obj.mk vn none (Data.func (FuncData.mk "led_out" "led_out" (prm (f1 55)) (FuncBody.stmts (bdy (f1 55))) (scp (f1 55)) 0 [] vn vn vn vn none vn vn 0)) #[]
noncomputable def ob261 (P : Params) : Obj := Obj.mk (vt "code") none (Data.fields #[vs "led_out" 782, vs "led_out" 783, vs "/claim/cut.py" 784, vi 268 0, vi 7 0, vi 0 0, vi 0 0, vi 3 0, vr 419, Value.bool true, vi 181 0, vr 420, vn, vr 421, vr 422, vr 423, vi 795 0, vi 268 0, vs "/claim/cut.py" 796]) #[]
noncomputable def ob262 (P : Params) : Obj := Obj.mk (vt "function") none (Data.func (FuncData.mk "led_out" "led_out" (prm (f1 55)) (FuncBody.stmts (bdy (f1 55))) (scp (f1 55)) 3 [] vn vn vn (vs "snobol.trial" 712) none (vr 424) vn 0)) #[]
noncomputable def ob263 (P : Params) : Obj := Obj.mk (vt "tuple") none (Data.seq #[vs "chain" 801, vs "at" 802, vs "named" 803, vs "pile" 804, vs "kind" 805, vs "rest" 806]) #[]
noncomputable def ob264 (P : Params) : Obj := Obj.mk vn none (Data.func (FuncData.mk "steered" "steered" (prm (f1 56)) (FuncBody.stmts (bdy (f1 56))) (scp (f1 56)) 0 [] vn vn vn vn none vn vn 0)) #[]
noncomputable def ob265 (P : Params) : Obj := Obj.mk (vt "code") none (Data.fields #[vs "steered" 798, vs "steered" 799, vs "/claim/cut.py" 800, vi 275 0, vi 4 0, vi 0 0, vi 0 0, vi 3 0, vr 426, Value.bool true, vi 181 0, vr 427, vn, vr 428, vr 429, vr 430, vi 807 0, vi 275 0, vs "/claim/cut.py" 808]) #[]
noncomputable def ob266 (P : Params) : Obj := Obj.mk (vt "function") none (Data.func (FuncData.mk "steered" "steered" (prm (f1 56)) (FuncBody.stmts (bdy (f1 56))) (scp (f1 56)) 3 [] vn vn vn (vs "snobol.trial" 712) none (vr 431) vn 0)) #[]
noncomputable def ob267 (P : Params) : Obj := Obj.mk (vt "tuple") none (Data.seq #[vs "here" 813, vs "rest" 814, vs "at" 815, vs "named" 816, vs "subject" 817, vs "pile" 818, vs "host" 819, vs "kind" 820, vs "ends" 821, vs "end" 822, vs "plain" 823]) #[]
noncomputable def ob268 (P : Params) : Obj := Obj.mk vn none (Data.func (FuncData.mk "taken" "taken" (prm (f1 57)) (FuncBody.stmts (bdy (f1 57))) (scp (f1 57)) 0 [] vn vn vn vn none vn vn 0)) #[]
noncomputable def ob269 (P : Params) : Obj := Obj.mk (vt "code") none (Data.fields #[vs "taken" 810, vs "taken" 811, vs "/claim/cut.py" 812, vi 283 0, vi 7 0, vi 0 0, vi 0 0, vi 3 0, vr 433, Value.bool true, vi 181 0, vr 434, vn, vr 435, vr 436, vr 437, vi 824 0, vi 283 0, vs "/claim/cut.py" 825]) #[]
noncomputable def ob270 (P : Params) : Obj := Obj.mk (vt "function") none (Data.func (FuncData.mk "taken" "taken" (prm (f1 57)) (FuncBody.stmts (bdy (f1 57))) (scp (f1 57)) 3 [] vn vn vn (vs "snobol.trial" 712) none (vr 438) vn 0)) #[]
noncomputable def ob271 (P : Params) : Obj := Obj.mk (vt "tuple") none (Data.seq #[vs "letters" 832, vs "code" 833, vs "told" 834, vs "edges" 835, vs "rest" 836, vs "left" 837, vs "host" 838, vs "node" 839, vs "edge" 840]) #[]
noncomputable def ob272 (P : Params) : Obj := Obj.mk vn none (Data.func (FuncData.mk "_law_edges" "_law_edges" (prm (f1 59)) (FuncBody.stmts (bdy (f1 59))) (scp (f1 59)) 0 [] vn vn vn vn none vn vn 0)) #[]
noncomputable def ob273 (P : Params) : Obj := Obj.mk (vt "code") none (Data.fields #[vs "_law_edges" 829, vs "_law_edges" 830, vs "/claim/cut.py" 831, vi 300 0, vi 3 0, vi 0 0, vi 0 0, vi 3 0, vr 440, Value.bool true, vi 181 0, vr 441, vn, vr 442, vr 443, vr 444, vi 841 0, vi 300 0, vs "/claim/cut.py" 842]) #[]
noncomputable def ob274 (P : Params) : Obj := Obj.mk (vt "function") none (Data.func (FuncData.mk "_law_edges" "_law_edges" (prm (f1 59)) (FuncBody.stmts (bdy (f1 59))) (scp (f1 59)) 3 [] vn vn vn (vs "law_xm0955_04" 827) none (vr 445) vn 0)) #[]
noncomputable def ob275 (P : Params) : Obj := Obj.mk vn none (Data.func (FuncData.mk "law" "law" (prm (f1 60)) (FuncBody.stmts (bdy (f1 60))) (scp (f1 60)) 0 [] vn vn vn vn none vn vn 0)) #[]
noncomputable def ob276 (P : Params) : Obj := Obj.mk (vt "code") none (Data.fields #[vs "law" 844, vs "law" 845, vs "/claim/cut.py" 846, vi 311 0, vi 1 0, vi 0 0, vi 0 0, vi 3 0, vr 447, Value.bool true, vi 181 0, vr 448, vn, vn, vn, vr 449, vi 847 0, vi 311 0, vs "/claim/cut.py" 848]) #[]
noncomputable def ob277 (P : Params) : Obj := Obj.mk (vt "function") none (Data.func (FuncData.mk "law" "law" (prm (f1 60)) (FuncBody.stmts (bdy (f1 60))) (scp (f1 60)) 3 [] vn vn vn (vs "law_xm0955_04" 827) none (vr 450) vn 0)) #[]
noncomputable def lf0 : Life := Life.mk [] [] [] 0 [] [] false #[] [] 0 false false false 0 [2000, 10, 10] false 0 true [] [] 0 false
noncomputable def drn0 : Drawn := ⟨0, 0, 0, 0⟩
noncomputable def hA (P : Params) : Heap := ⟨#[boot_o_0 P, boot_o_1 P, boot_o_2 P, boot_o_3 P, boot_o_4 P, boot_o_5 P, boot_o_6 P, boot_o_7 P, boot_o_8 P, boot_o_9 P, boot_o_10 P, ob0 P, ob1 P, ob2 P, ob3 P], lf0⟩
noncomputable def tA (P : Params) : BT := nd (boot_o_0 P) (nd (boot_o_1 P) (nd (boot_o_3 P) (nd (boot_o_7 P) .nil .nil) (nd (ob0 P) .nil .nil)) (nd (boot_o_5 P) (nd (boot_o_9 P) .nil .nil) (nd (ob2 P) .nil .nil))) (nd (boot_o_2 P) (nd (boot_o_4 P) (nd (boot_o_8 P) .nil .nil) (nd (ob1 P) .nil .nil)) (nd (boot_o_6 P) (nd (boot_o_10 P) .nil .nil) (nd (ob3 P) .nil .nil)))
noncomputable def tF (P : Params) : BT := nd (boot_o_0 P) (nd (boot_o_1 P) (nd (ob5 P) (nd (boot_o_7 P) (nd (ob0 P) (nd (ob15 P) (nd (ob40 P) (nd (ob84 P) (nd (ob164 P) .nil .nil) (nd (ob238 P) .nil .nil)) (nd (ob124 P) (nd (ob201 P) .nil .nil) (nd (ob0 P) .nil .nil))) (nd (ob61 P) (nd (ob105 P) (nd (ob1 P) .nil .nil) (nd (ob0 P) .nil .nil)) (nd (ob0 P) (nd (ob219 P) .nil .nil) .nil))) (nd (ob0 P) (nd (ob51 P) (nd (ob0 P) (nd (ob174 P) .nil .nil) (nd (ob1 P) .nil .nil)) (nd (ob1 P) (nd (ob0 P) .nil .nil) .nil)) (nd (ob0 P) (nd (ob114 P) (nd (ob0 P) .nil .nil) (nd (ob265 P) .nil .nil)) (nd (ob155 P) (nd (ob228 P) .nil .nil) .nil)))) (nd (ob1 P) (nd (ob0 P) (nd (ob44 P) (nd (ob89 P) (nd (ob169 P) .nil .nil) (nd (ob0 P) .nil .nil)) (nd (ob0 P) (nd (ob206 P) .nil .nil) .nil)) (nd (ob67 P) (nd (ob0 P) (nd (ob187 P) .nil .nil) (nd (ob260 P) .nil .nil)) (nd (ob149 P) (nd (ob0 P) .nil .nil) .nil))) (nd (ob33 P) (nd (ob0 P) (nd (ob1 P) (nd (ob0 P) .nil .nil) (nd (ob251 P) .nil .nil)) (nd (ob137 P) (nd (ob1 P) .nil .nil) .nil)) (nd (ob79 P) (nd (ob119 P) (nd (ob196 P) .nil .nil) (nd (ob270 P) .nil .nil)) (nd (ob0 P) (nd (ob233 P) .nil .nil) .nil))))) (nd (ob0 P) (nd (ob8 P) (nd (ob18 P) (nd (ob24 P) (nd (ob86 P) (nd (ob1 P) .nil .nil) (nd (ob0 P) .nil .nil)) (nd (ob0 P) (nd (ob203 P) .nil .nil) (nd (ob277 P) .nil .nil))) (nd (ob65 P) (nd (ob108 P) (nd (ob185 P) .nil .nil) (nd (ob0 P) .nil .nil)) (nd (ob145 P) (nd (ob222 P) .nil .nil) .nil))) (nd (ob30 P) (nd (ob0 P) (nd (ob98 P) (nd (ob0 P) .nil .nil) (nd (ob249 P) .nil .nil)) (nd (ob135 P) (nd (ob212 P) .nil .nil) .nil)) (nd (ob75 P) (nd (ob1 P) (nd (ob0 P) .nil .nil) (nd (ob267 P) .nil .nil)) (nd (ob158 P) (nd (ob1 P) .nil .nil) .nil)))) (nd (ob13 P) (nd (ob23 P) (nd (ob47 P) (nd (ob93 P) (nd (ob171 P) .nil .nil) (nd (ob244 P) .nil .nil)) (nd (ob130 P) (nd (ob0 P) .nil .nil) .nil)) (nd (ob70 P) (nd (ob0 P) (nd (ob190 P) .nil .nil) (nd (ob1 P) .nil .nil)) (nd (ob153 P) (nd (ob0 P) .nil .nil) .nil))) (nd (ob36 P) (nd (ob57 P) (nd (ob103 P) (nd (ob180 P) .nil .nil) (nd (ob254 P) .nil .nil)) (nd (ob140 P) (nd (ob217 P) .nil .nil) .nil)) (nd (ob24 P) (nd (ob121 P) (nd (ob1 P) .nil .nil) (nd (ob0 P) .nil .nil)) (nd (ob0 P) (nd (ob235 P) .nil .nil) .nil)))))) (nd (boot_o_5 P) (nd (boot_o_9 P) (nd (ob7 P) (nd (ob16 P) (nd (ob42 P) (nd (ob0 P) (nd (ob166 P) .nil .nil) (nd (ob1 P) .nil .nil)) (nd (ob24 P) (nd (ob0 P) .nil .nil) (nd (ob275 P) .nil .nil))) (nd (ob63 P) (nd (ob106 P) (nd (ob0 P) .nil .nil) (nd (ob257 P) .nil .nil)) (nd (ob143 P) (nd (ob220 P) .nil .nil) .nil))) (nd (ob28 P) (nd (ob24 P) (nd (ob97 P) (nd (ob1 P) .nil .nil) (nd (ob0 P) .nil .nil)) (nd (ob0 P) (nd (ob211 P) .nil .nil) .nil)) (nd (ob73 P) (nd (ob116 P) (nd (ob193 P) .nil .nil) (nd (ob0 P) .nil .nil)) (nd (ob156 P) (nd (ob230 P) .nil .nil) .nil)))) (nd (ob0 P) (nd (ob21 P) (nd (ob0 P) (nd (ob91 P) (nd (ob0 P) .nil .nil) (nd (ob243 P) .nil .nil)) (nd (ob129 P) (nd (ob1 P) .nil .nil) .nil)) (nd (ob68 P) (nd (ob111 P) (nd (ob188 P) .nil .nil) (nd (ob262 P) .nil .nil)) (nd (ob151 P) (nd (ob225 P) .nil .nil) .nil))) (nd (ob34 P) (nd (ob56 P) (nd (ob0 P) (nd (ob179 P) .nil .nil) (nd (ob252 P) .nil .nil)) (nd (ob138 P) (nd (ob0 P) .nil .nil) .nil)) (nd (ob81 P) (nd (ob0 P) (nd (ob198 P) .nil .nil) (nd (ob1 P) .nil .nil)) (nd (ob161 P) (nd (ob0 P) .nil .nil) .nil))))) (nd (ob2 P) (nd (ob10 P) (nd (ob1 P) (nd (ob0 P) (nd (ob87 P) (nd (ob0 P) .nil .nil) (nd (ob241 P) .nil .nil)) (nd (ob127 P) (nd (ob204 P) .nil .nil) .nil)) (nd (ob0 P) (nd (ob1 P) (nd (ob0 P) .nil .nil) (nd (ob259 P) .nil .nil)) (nd (ob147 P) (nd (ob1 P) .nil .nil) .nil))) (nd (ob32 P) (nd (ob54 P) (nd (ob100 P) (nd (ob177 P) .nil .nil) (nd (ob0 P) .nil .nil)) (nd (ob0 P) (nd (ob214 P) .nil .nil) .nil)) (nd (ob77 P) (nd (ob0 P) (nd (ob195 P) .nil .nil) (nd (ob268 P) .nil .nil)) (nd (ob1 P) (nd (ob0 P) .nil .nil) .nil)))) (nd (ob0 P) (nd (ob25 P) (nd (ob49 P) (nd (ob95 P) (nd (ob172 P) .nil .nil) (nd (ob246 P) .nil .nil)) (nd (ob132 P) (nd (ob209 P) .nil .nil) .nil)) (nd (ob1 P) (nd (ob113 P) (nd (ob1 P) .nil .nil) (nd (ob0 P) .nil .nil)) (nd (ob0 P) (nd (ob227 P) .nil .nil) .nil))) (nd (ob38 P) (nd (ob59 P) (nd (ob0 P) (nd (ob182 P) .nil .nil) (nd (ob1 P) .nil .nil)) (nd (ob1 P) (nd (ob0 P) .nil .nil) .nil)) (nd (ob0 P) (nd (ob122 P) (nd (ob0 P) .nil .nil) (nd (ob273 P) .nil .nil)) (nd (ob163 P) (nd (ob236 P) .nil .nil) .nil))))))) (nd (ob4 P) (nd (boot_o_4 P) (nd (boot_o_8 P) (nd (ob1 P) (nd (ob0 P) (nd (ob41 P) (nd (ob85 P) (nd (ob165 P) .nil .nil) (nd (ob0 P) .nil .nil)) (nd (ob0 P) (nd (ob202 P) .nil .nil) (nd (ob1 P) .nil .nil))) (nd (ob62 P) (nd (ob0 P) (nd (ob183 P) .nil .nil) (nd (ob256 P) .nil .nil)) (nd (ob142 P) (nd (ob0 P) .nil .nil) .nil))) (nd (ob27 P) (nd (ob0 P) (nd (ob1 P) (nd (ob0 P) .nil .nil) (nd (ob247 P) .nil .nil)) (nd (ob133 P) (nd (ob1 P) .nil .nil) .nil)) (nd (ob72 P) (nd (ob115 P) (nd (ob192 P) .nil .nil) (nd (ob266 P) .nil .nil)) (nd (ob0 P) (nd (ob229 P) .nil .nil) .nil)))) (nd (ob11 P) (nd (ob20 P) (nd (ob45 P) (nd (ob90 P) (nd (ob170 P) .nil .nil) (nd (ob1 P) .nil .nil)) (nd (ob1 P) (nd (ob0 P) .nil .nil) .nil)) (nd (ob0 P) (nd (ob110 P) (nd (ob0 P) .nil .nil) (nd (ob261 P) .nil .nil)) (nd (ob150 P) (nd (ob224 P) .nil .nil) .nil))) (nd (ob0 P) (nd (ob1 P) (nd (ob101 P) (nd (ob1 P) .nil .nil) (nd (ob0 P) .nil .nil)) (nd (ob0 P) (nd (ob215 P) .nil .nil) .nil)) (nd (ob80 P) (nd (ob120 P) (nd (ob197 P) .nil .nil) (nd (ob0 P) .nil .nil)) (nd (ob160 P) (nd (ob234 P) .nil .nil) .nil))))) (nd (ob6 P) (nd (ob9 P) (nd (ob0 P) (nd (ob43 P) (nd (ob0 P) (nd (ob167 P) .nil .nil) (nd (ob240 P) .nil .nil)) (nd (ob126 P) (nd (ob0 P) .nil .nil) .nil)) (nd (ob66 P) (nd (ob0 P) (nd (ob186 P) .nil .nil) (nd (ob1 P) .nil .nil)) (nd (ob146 P) (nd (ob0 P) .nil .nil) .nil))) (nd (ob31 P) (nd (ob53 P) (nd (ob99 P) (nd (ob176 P) .nil .nil) (nd (ob250 P) .nil .nil)) (nd (ob136 P) (nd (ob213 P) .nil .nil) .nil)) (nd (ob76 P) (nd (ob117 P) (nd (ob1 P) .nil .nil) (nd (ob0 P) .nil .nil)) (nd (ob0 P) (nd (ob231 P) .nil .nil) .nil)))) (nd (ob14 P) (nd (ob24 P) (nd (ob48 P) (nd (ob94 P) (nd (ob0 P) .nil .nil) (nd (ob245 P) .nil .nil)) (nd (ob131 P) (nd (ob208 P) .nil .nil) .nil)) (nd (ob0 P) (nd (ob1 P) (nd (ob0 P) .nil .nil) (nd (ob263 P) .nil .nil)) (nd (ob154 P) (nd (ob1 P) .nil .nil) .nil))) (nd (ob37 P) (nd (ob58 P) (nd (ob104 P) (nd (ob181 P) .nil .nil) (nd (ob0 P) .nil .nil)) (nd (ob0 P) (nd (ob218 P) .nil .nil) .nil)) (nd (ob82 P) (nd (ob0 P) (nd (ob199 P) .nil .nil) (nd (ob272 P) .nil .nil)) (nd (ob1 P) (nd (ob0 P) .nil .nil) .nil)))))) (nd (boot_o_6 P) (nd (boot_o_10 P) (nd (ob0 P) (nd (ob17 P) (nd (ob0 P) (nd (ob1 P) (nd (ob0 P) .nil .nil) (nd (ob239 P) .nil .nil)) (nd (ob125 P) (nd (ob1 P) .nil .nil) (nd (ob276 P) .nil .nil))) (nd (ob64 P) (nd (ob107 P) (nd (ob184 P) .nil .nil) (nd (ob258 P) .nil .nil)) (nd (ob144 P) (nd (ob221 P) .nil .nil) .nil))) (nd (ob29 P) (nd (ob52 P) (nd (ob0 P) (nd (ob175 P) .nil .nil) (nd (ob248 P) .nil .nil)) (nd (ob134 P) (nd (ob0 P) .nil .nil) .nil)) (nd (ob74 P) (nd (ob0 P) (nd (ob194 P) .nil .nil) (nd (ob1 P) .nil .nil)) (nd (ob157 P) (nd (ob0 P) .nil .nil) .nil)))) (nd (ob12 P) (nd (ob22 P) (nd (ob46 P) (nd (ob92 P) (nd (ob1 P) .nil .nil) (nd (ob0 P) .nil .nil)) (nd (ob0 P) (nd (ob207 P) .nil .nil) .nil)) (nd (ob69 P) (nd (ob112 P) (nd (ob189 P) .nil .nil) (nd (ob0 P) .nil .nil)) (nd (ob152 P) (nd (ob226 P) .nil .nil) .nil))) (nd (ob35 P) (nd (ob0 P) (nd (ob102 P) (nd (ob0 P) .nil .nil) (nd (ob253 P) .nil .nil)) (nd (ob139 P) (nd (ob216 P) .nil .nil) .nil)) (nd (ob0 P) (nd (ob1 P) (nd (ob0 P) .nil .nil) (nd (ob271 P) .nil .nil)) (nd (ob162 P) (nd (ob1 P) .nil .nil) .nil))))) (nd (ob3 P) (nd (ob0 P) (nd (ob19 P) (nd (ob1 P) (nd (ob88 P) (nd (ob168 P) .nil .nil) (nd (ob242 P) .nil .nil)) (nd (ob128 P) (nd (ob205 P) .nil .nil) .nil)) (nd (ob24 P) (nd (ob109 P) (nd (ob1 P) .nil .nil) (nd (ob0 P) .nil .nil)) (nd (ob148 P) (nd (ob223 P) .nil .nil) .nil))) (nd (ob1 P) (nd (ob55 P) (nd (ob0 P) (nd (ob178 P) .nil .nil) (nd (ob1 P) .nil .nil)) (nd (ob1 P) (nd (ob0 P) .nil .nil) .nil)) (nd (ob78 P) (nd (ob118 P) (nd (ob0 P) .nil .nil) (nd (ob269 P) .nil .nil)) (nd (ob159 P) (nd (ob232 P) .nil .nil) .nil)))) (nd (ob1 P) (nd (ob26 P) (nd (ob50 P) (nd (ob96 P) (nd (ob173 P) .nil .nil) (nd (ob0 P) .nil .nil)) (nd (ob0 P) (nd (ob210 P) .nil .nil) .nil)) (nd (ob71 P) (nd (ob0 P) (nd (ob191 P) .nil .nil) (nd (ob264 P) .nil .nil)) (nd (ob1 P) (nd (ob0 P) .nil .nil) .nil))) (nd (ob39 P) (nd (ob60 P) (nd (ob1 P) (nd (ob0 P) .nil .nil) (nd (ob255 P) .nil .nil)) (nd (ob141 P) (nd (ob1 P) .nil .nil) .nil)) (nd (ob83 P) (nd (ob123 P) (nd (ob200 P) .nil .nil) (nd (ob274 P) .nil .nil)) (nd (ob0 P) (nd (ob237 P) .nil .nil) .nil)))))))
noncomputable def hF (P : Params) : Heap := ⟨#[boot_o_0 P, boot_o_1 P, ob4 P, ob5 P, boot_o_4 P, boot_o_5 P, boot_o_6 P, boot_o_7 P, boot_o_8 P, boot_o_9 P, boot_o_10 P, ob0 P, ob6 P, ob2 P, ob3 P, ob0 P, ob1 P, ob7 P, ob0 P, ob8 P, ob9 P, ob10 P, ob0 P, ob1 P, ob11 P, ob0 P, ob12 P, ob13 P, ob14 P, ob0 P, ob1 P, ob15 P, ob0 P, ob16 P, ob17 P, ob18 P, ob0 P, ob1 P, ob19 P, ob0 P, ob20 P, ob21 P, ob22 P, ob23 P, ob24 P, ob25 P, ob26 P, ob0 P, ob27 P, ob28 P, ob29 P, ob30 P, ob31 P, ob32 P, ob1 P, ob33 P, ob0 P, ob34 P, ob35 P, ob36 P, ob37 P, ob38 P, ob39 P, ob40 P, ob41 P, ob42 P, ob0 P, ob24 P, ob43 P, ob0 P, ob1 P, ob44 P, ob45 P, ob0 P, ob46 P, ob47 P, ob48 P, ob49 P, ob50 P, ob51 P, ob0 P, ob24 P, ob52 P, ob0 P, ob53 P, ob54 P, ob55 P, ob0 P, ob1 P, ob56 P, ob0 P, ob57 P, ob58 P, ob59 P, ob60 P, ob61 P, ob62 P, ob63 P, ob64 P, ob65 P, ob66 P, ob0 P, ob24 P, ob67 P, ob0 P, ob68 P, ob69 P, ob70 P, ob0 P, ob1 P, ob71 P, ob0 P, ob72 P, ob73 P, ob74 P, ob75 P, ob76 P, ob77 P, ob78 P, ob79 P, ob80 P, ob81 P, ob0 P, ob24 P, ob82 P, ob0 P, ob83 P, ob84 P, ob85 P, ob0 P, ob1 P, ob86 P, ob0 P, ob87 P, ob88 P, ob89 P, ob90 P, ob91 P, ob92 P, ob93 P, ob94 P, ob95 P, ob96 P, ob0 P, ob1 P, ob97 P, ob0 P, ob98 P, ob99 P, ob100 P, ob0 P, ob1 P, ob101 P, ob0 P, ob102 P, ob103 P, ob104 P, ob0 P, ob1 P, ob105 P, ob0 P, ob106 P, ob107 P, ob108 P, ob0 P, ob1 P, ob109 P, ob0 P, ob110 P, ob111 P, ob112 P, ob0 P, ob1 P, ob113 P, ob0 P, ob114 P, ob115 P, ob116 P, ob0 P, ob1 P, ob117 P, ob0 P, ob118 P, ob119 P, ob120 P, ob0 P, ob1 P, ob121 P, ob0 P, ob122 P, ob123 P, ob124 P, ob0 P, ob24 P, ob125 P, ob0 P, ob126 P, ob127 P, ob128 P, ob0 P, ob1 P, ob129 P, ob0 P, ob130 P, ob131 P, ob132 P, ob0 P, ob1 P, ob133 P, ob0 P, ob134 P, ob135 P, ob136 P, ob0 P, ob1 P, ob137 P, ob0 P, ob138 P, ob139 P, ob140 P, ob0 P, ob1 P, ob141 P, ob0 P, ob142 P, ob143 P, ob144 P, ob145 P, ob146 P, ob147 P, ob148 P, ob149 P, ob150 P, ob151 P, ob152 P, ob153 P, ob154 P, ob0 P, ob1 P, ob155 P, ob0 P, ob156 P, ob157 P, ob158 P, ob0 P, ob1 P, ob159 P, ob0 P, ob160 P, ob161 P, ob162 P, ob0 P, ob1 P, ob163 P, ob0 P, ob164 P, ob165 P, ob166 P, ob0 P, ob1 P, ob167 P, ob0 P, ob168 P, ob169 P, ob170 P, ob0 P, ob1 P, ob171 P, ob0 P, ob172 P, ob173 P, ob174 P, ob0 P, ob1 P, ob175 P, ob0 P, ob176 P, ob177 P, ob178 P, ob0 P, ob1 P, ob179 P, ob0 P, ob180 P, ob181 P, ob182 P, ob0 P, ob1 P, ob183 P, ob0 P, ob184 P, ob185 P, ob186 P, ob0 P, ob1 P, ob187 P, ob0 P, ob188 P, ob189 P, ob190 P, ob0 P, ob1 P, ob191 P, ob0 P, ob192 P, ob193 P, ob194 P, ob0 P, ob1 P, ob195 P, ob0 P, ob196 P, ob197 P, ob198 P, ob0 P, ob1 P, ob199 P, ob0 P, ob200 P, ob201 P, ob202 P, ob0 P, ob1 P, ob203 P, ob0 P, ob204 P, ob205 P, ob206 P, ob0 P, ob1 P, ob207 P, ob0 P, ob208 P, ob209 P, ob210 P, ob0 P, ob1 P, ob211 P, ob0 P, ob212 P, ob213 P, ob214 P, ob0 P, ob1 P, ob215 P, ob0 P, ob216 P, ob217 P, ob218 P, ob0 P, ob1 P, ob219 P, ob0 P, ob220 P, ob221 P, ob222 P, ob0 P, ob1 P, ob223 P, ob0 P, ob224 P, ob225 P, ob226 P, ob0 P, ob1 P, ob227 P, ob0 P, ob228 P, ob229 P, ob230 P, ob0 P, ob1 P, ob231 P, ob0 P, ob232 P, ob233 P, ob234 P, ob0 P, ob1 P, ob235 P, ob0 P, ob236 P, ob237 P, ob238 P, ob0 P, ob1 P, ob239 P, ob0 P, ob240 P, ob241 P, ob242 P, ob0 P, ob1 P, ob243 P, ob0 P, ob244 P, ob245 P, ob246 P, ob0 P, ob1 P, ob247 P, ob0 P, ob248 P, ob249 P, ob250 P, ob0 P, ob1 P, ob251 P, ob0 P, ob252 P, ob253 P, ob254 P, ob0 P, ob1 P, ob255 P, ob0 P, ob256 P, ob257 P, ob258 P, ob0 P, ob1 P, ob259 P, ob0 P, ob260 P, ob261 P, ob262 P, ob0 P, ob1 P, ob263 P, ob0 P, ob264 P, ob265 P, ob266 P, ob0 P, ob1 P, ob267 P, ob0 P, ob268 P, ob269 P, ob270 P, ob0 P, ob1 P, ob271 P, ob0 P, ob272 P, ob273 P, ob274 P, ob0 P, ob1 P, ob275 P, ob276 P, ob277 P], lf0⟩
noncomputable def KK (P : Params) : Frag := (nat_lit 2, ob4 P) :: (nat_lit 3, ob5 P) :: (nat_lit 15, ob0 P) :: (nat_lit 17, ob7 P) :: (nat_lit 18, ob0 P) :: (nat_lit 20, ob9 P) :: (nat_lit 21, ob10 P) :: (nat_lit 22, ob0 P) :: (nat_lit 24, ob11 P) :: (nat_lit 25, ob0 P) :: (nat_lit 27, ob13 P) :: (nat_lit 28, ob14 P) :: (nat_lit 29, ob0 P) :: (nat_lit 31, ob15 P) :: (nat_lit 32, ob0 P) :: (nat_lit 34, ob17 P) :: (nat_lit 35, ob18 P) :: (nat_lit 36, ob0 P) :: (nat_lit 38, ob19 P) :: (nat_lit 39, ob0 P) :: (nat_lit 41, ob21 P) :: (nat_lit 42, ob22 P) :: (nat_lit 43, ob23 P) :: (nat_lit 46, ob26 P) :: (nat_lit 51, ob30 P) :: (nat_lit 52, ob31 P) :: (nat_lit 53, ob32 P) :: (nat_lit 55, ob33 P) :: (nat_lit 56, ob0 P) :: (nat_lit 58, ob35 P) :: (nat_lit 59, ob36 P) :: (nat_lit 60, ob37 P) :: (nat_lit 61, ob38 P) :: (nat_lit 62, ob39 P) :: (nat_lit 63, ob40 P) :: (nat_lit 73, ob0 P) :: (nat_lit 74, ob46 P) :: (nat_lit 75, ob47 P) :: (nat_lit 76, ob48 P) :: (nat_lit 77, ob49 P) :: (nat_lit 87, ob0 P) :: (nat_lit 89, ob56 P) :: (nat_lit 90, ob0 P) :: (nat_lit 92, ob58 P) :: (nat_lit 93, ob59 P) :: (nat_lit 94, ob60 P) :: (nat_lit 95, ob61 P) :: (nat_lit 96, ob62 P) :: (nat_lit 97, ob63 P) :: (nat_lit 98, ob64 P) :: (nat_lit 108, ob0 P) :: (nat_lit 110, ob71 P) :: (nat_lit 111, ob0 P) :: (nat_lit 113, ob73 P) :: (nat_lit 114, ob74 P) :: (nat_lit 115, ob75 P) :: (nat_lit 116, ob76 P) :: (nat_lit 117, ob77 P) :: (nat_lit 118, ob78 P) :: (nat_lit 119, ob79 P) :: (nat_lit 129, ob0 P) :: (nat_lit 131, ob86 P) :: (nat_lit 132, ob0 P) :: (nat_lit 134, ob88 P) :: (nat_lit 135, ob89 P) :: (nat_lit 136, ob90 P) :: (nat_lit 137, ob91 P) :: (nat_lit 138, ob92 P) :: (nat_lit 139, ob93 P) :: (nat_lit 140, ob94 P) :: (nat_lit 143, ob0 P) :: (nat_lit 145, ob97 P) :: (nat_lit 146, ob0 P) :: (nat_lit 148, ob99 P) :: (nat_lit 149, ob100 P) :: (nat_lit 150, ob0 P) :: (nat_lit 152, ob101 P) :: (nat_lit 153, ob0 P) :: (nat_lit 155, ob103 P) :: (nat_lit 156, ob104 P) :: (nat_lit 157, ob0 P) :: (nat_lit 159, ob105 P) :: (nat_lit 160, ob0 P) :: (nat_lit 162, ob107 P) :: (nat_lit 163, ob108 P) :: (nat_lit 164, ob0 P) :: (nat_lit 166, ob109 P) :: (nat_lit 167, ob0 P) :: (nat_lit 169, ob111 P) :: (nat_lit 170, ob112 P) :: (nat_lit 171, ob0 P) :: (nat_lit 173, ob113 P) :: (nat_lit 174, ob0 P) :: (nat_lit 176, ob115 P) :: (nat_lit 177, ob116 P) :: (nat_lit 178, ob0 P) :: (nat_lit 180, ob117 P) :: (nat_lit 181, ob0 P) :: (nat_lit 183, ob119 P) :: (nat_lit 184, ob120 P) :: (nat_lit 185, ob0 P) :: (nat_lit 187, ob121 P) :: (nat_lit 188, ob0 P) :: (nat_lit 190, ob123 P) :: (nat_lit 191, ob124 P) :: (nat_lit 199, ob0 P) :: (nat_lit 201, ob129 P) :: (nat_lit 202, ob0 P) :: (nat_lit 204, ob131 P) :: (nat_lit 205, ob132 P) :: (nat_lit 206, ob0 P) :: (nat_lit 208, ob133 P) :: (nat_lit 209, ob0 P) :: (nat_lit 211, ob135 P) :: (nat_lit 212, ob136 P) :: (nat_lit 213, ob0 P) :: (nat_lit 215, ob137 P) :: (nat_lit 216, ob0 P) :: (nat_lit 218, ob139 P) :: (nat_lit 219, ob140 P) :: (nat_lit 220, ob0 P) :: (nat_lit 222, ob141 P) :: (nat_lit 223, ob0 P) :: (nat_lit 225, ob143 P) :: (nat_lit 226, ob144 P) :: (nat_lit 227, ob145 P) :: (nat_lit 228, ob146 P) :: (nat_lit 229, ob147 P) :: (nat_lit 230, ob148 P) :: (nat_lit 231, ob149 P) :: (nat_lit 234, ob152 P) :: (nat_lit 235, ob153 P) :: (nat_lit 236, ob154 P) :: (nat_lit 237, ob0 P) :: (nat_lit 239, ob155 P) :: (nat_lit 240, ob0 P) :: (nat_lit 242, ob157 P) :: (nat_lit 243, ob158 P) :: (nat_lit 244, ob0 P) :: (nat_lit 246, ob159 P) :: (nat_lit 247, ob0 P) :: (nat_lit 249, ob161 P) :: (nat_lit 250, ob162 P) :: (nat_lit 251, ob0 P) :: (nat_lit 253, ob163 P) :: (nat_lit 254, ob0 P) :: (nat_lit 256, ob165 P) :: (nat_lit 257, ob166 P) :: (nat_lit 258, ob0 P) :: (nat_lit 260, ob167 P) :: (nat_lit 261, ob0 P) :: (nat_lit 263, ob169 P) :: (nat_lit 264, ob170 P) :: (nat_lit 265, ob0 P) :: (nat_lit 267, ob171 P) :: (nat_lit 268, ob0 P) :: (nat_lit 270, ob173 P) :: (nat_lit 271, ob174 P) :: (nat_lit 272, ob0 P) :: (nat_lit 274, ob175 P) :: (nat_lit 275, ob0 P) :: (nat_lit 277, ob177 P) :: (nat_lit 278, ob178 P) :: (nat_lit 279, ob0 P) :: (nat_lit 281, ob179 P) :: (nat_lit 282, ob0 P) :: (nat_lit 284, ob181 P) :: (nat_lit 285, ob182 P) :: (nat_lit 286, ob0 P) :: (nat_lit 288, ob183 P) :: (nat_lit 289, ob0 P) :: (nat_lit 291, ob185 P) :: (nat_lit 292, ob186 P) :: (nat_lit 293, ob0 P) :: (nat_lit 295, ob187 P) :: (nat_lit 296, ob0 P) :: (nat_lit 298, ob189 P) :: (nat_lit 299, ob190 P) :: (nat_lit 300, ob0 P) :: (nat_lit 302, ob191 P) :: (nat_lit 303, ob0 P) :: (nat_lit 305, ob193 P) :: (nat_lit 306, ob194 P) :: (nat_lit 307, ob0 P) :: (nat_lit 309, ob195 P) :: (nat_lit 310, ob0 P) :: (nat_lit 312, ob197 P) :: (nat_lit 313, ob198 P) :: (nat_lit 314, ob0 P) :: (nat_lit 316, ob199 P) :: (nat_lit 317, ob0 P) :: (nat_lit 319, ob201 P) :: (nat_lit 320, ob202 P) :: (nat_lit 321, ob0 P) :: (nat_lit 323, ob203 P) :: (nat_lit 324, ob0 P) :: (nat_lit 326, ob205 P) :: (nat_lit 327, ob206 P) :: (nat_lit 328, ob0 P) :: (nat_lit 330, ob207 P) :: (nat_lit 331, ob0 P) :: (nat_lit 333, ob209 P) :: (nat_lit 334, ob210 P) :: (nat_lit 335, ob0 P) :: (nat_lit 337, ob211 P) :: (nat_lit 338, ob0 P) :: (nat_lit 340, ob213 P) :: (nat_lit 341, ob214 P) :: (nat_lit 342, ob0 P) :: (nat_lit 344, ob215 P) :: (nat_lit 345, ob0 P) :: (nat_lit 347, ob217 P) :: (nat_lit 348, ob218 P) :: (nat_lit 349, ob0 P) :: (nat_lit 351, ob219 P) :: (nat_lit 352, ob0 P) :: (nat_lit 354, ob221 P) :: (nat_lit 355, ob222 P) :: (nat_lit 356, ob0 P) :: (nat_lit 358, ob223 P) :: (nat_lit 359, ob0 P) :: (nat_lit 361, ob225 P) :: (nat_lit 362, ob226 P) :: (nat_lit 363, ob0 P) :: (nat_lit 365, ob227 P) :: (nat_lit 366, ob0 P) :: (nat_lit 368, ob229 P) :: (nat_lit 369, ob230 P) :: (nat_lit 370, ob0 P) :: (nat_lit 372, ob231 P) :: (nat_lit 373, ob0 P) :: (nat_lit 375, ob233 P) :: (nat_lit 376, ob234 P) :: (nat_lit 377, ob0 P) :: (nat_lit 379, ob235 P) :: (nat_lit 380, ob0 P) :: (nat_lit 382, ob237 P) :: (nat_lit 383, ob238 P) :: (nat_lit 384, ob0 P) :: (nat_lit 386, ob239 P) :: (nat_lit 387, ob0 P) :: (nat_lit 389, ob241 P) :: (nat_lit 390, ob242 P) :: (nat_lit 391, ob0 P) :: (nat_lit 393, ob243 P) :: (nat_lit 394, ob0 P) :: (nat_lit 396, ob245 P) :: (nat_lit 397, ob246 P) :: (nat_lit 398, ob0 P) :: (nat_lit 400, ob247 P) :: (nat_lit 401, ob0 P) :: (nat_lit 403, ob249 P) :: (nat_lit 404, ob250 P) :: (nat_lit 405, ob0 P) :: (nat_lit 407, ob251 P) :: (nat_lit 408, ob0 P) :: (nat_lit 410, ob253 P) :: (nat_lit 411, ob254 P) :: (nat_lit 412, ob0 P) :: (nat_lit 414, ob255 P) :: (nat_lit 415, ob0 P) :: (nat_lit 417, ob257 P) :: (nat_lit 418, ob258 P) :: (nat_lit 419, ob0 P) :: (nat_lit 421, ob259 P) :: (nat_lit 422, ob0 P) :: (nat_lit 424, ob261 P) :: (nat_lit 425, ob262 P) :: (nat_lit 426, ob0 P) :: (nat_lit 428, ob263 P) :: (nat_lit 429, ob0 P) :: (nat_lit 431, ob265 P) :: (nat_lit 432, ob266 P) :: (nat_lit 433, ob0 P) :: (nat_lit 435, ob267 P) :: (nat_lit 436, ob0 P) :: (nat_lit 438, ob269 P) :: (nat_lit 439, ob270 P) :: (nat_lit 440, ob0 P) :: (nat_lit 442, ob271 P) :: (nat_lit 443, ob0 P) :: (nat_lit 445, ob273 P) :: (nat_lit 446, ob274 P) :: (nat_lit 447, ob0 P) :: (nat_lit 450, ob276 P) :: (nat_lit 451, ob277 P) :: []
noncomputable def kas : List Addr := [2, 3, 15, 17, 18, 20, 21, 22, 24, 25, 27, 28, 29, 31, 32, 34, 35, 36, 38, 39, 41, 42, 43, 46, 51, 52, 53, 55, 56, 58, 59, 60, 61, 62, 63, 73, 74, 75, 76, 77, 87, 89, 90, 92, 93, 94, 95, 96, 97, 98, 108, 110, 111, 113, 114, 115, 116, 117, 118, 119, 129, 131, 132, 134, 135, 136, 137, 138, 139, 140, 143, 145, 146, 148, 149, 150, 152, 153, 155, 156, 157, 159, 160, 162, 163, 164, 166, 167, 169, 170, 171, 173, 174, 176, 177, 178, 180, 181, 183, 184, 185, 187, 188, 190, 191, 199, 201, 202, 204, 205, 206, 208, 209, 211, 212, 213, 215, 216, 218, 219, 220, 222, 223, 225, 226, 227, 228, 229, 230, 231, 234, 235, 236, 237, 239, 240, 242, 243, 244, 246, 247, 249, 250, 251, 253, 254, 256, 257, 258, 260, 261, 263, 264, 265, 267, 268, 270, 271, 272, 274, 275, 277, 278, 279, 281, 282, 284, 285, 286, 288, 289, 291, 292, 293, 295, 296, 298, 299, 300, 302, 303, 305, 306, 307, 309, 310, 312, 313, 314, 316, 317, 319, 320, 321, 323, 324, 326, 327, 328, 330, 331, 333, 334, 335, 337, 338, 340, 341, 342, 344, 345, 347, 348, 349, 351, 352, 354, 355, 356, 358, 359, 361, 362, 363, 365, 366, 368, 369, 370, 372, 373, 375, 376, 377, 379, 380, 382, 383, 384, 386, 387, 389, 390, 391, 393, 394, 396, 397, 398, 400, 401, 403, 404, 405, 407, 408, 410, 411, 412, 414, 415, 417, 418, 419, 421, 422, 424, 425, 426, 428, 429, 431, 432, 433, 435, 436, 438, 439, 440, 442, 443, 445, 446, 447, 450, 451]
theorem kpf (P : Params) : kas = (KK P).map (·.1) := by kernel_rfl
noncomputable def kpB : List Nat := [1, 2, 3, 4, 6, 7, 8, 9, 10, 11, 12, 13, 14, 15, 16, 17, 19, 21, 22, 23, 25, 26, 27, 28, 30, 31, 32, 33, 34, 35, 36, 37, 38, 39, 40, 41, 42, 43, 44, 45, 46, 47, 49, 50, 51, 52, 53, 54, 55, 56, 57, 59, 60]
noncomputable def vw : Program := { pg with main := { pg.main with body := [f1 1, f1 2, f1 3, f1 4, f1 6, f1 7, f1 8, f1 9, f1 10, f1 11, f1 12, f1 13, f1 14, f1 15, f1 16, f1 17, f1 19, f1 21, f1 22, f1 23, f1 25, f1 26, f1 27, f1 28, f1 30, f1 31, f1 32, f1 33, f1 34, f1 35, f1 36, f1 37, f1 38, f1 39, f1 40, f1 41, f1 42, f1 43, f1 44, f1 45, f1 46, f1 47, f1 49, f1 50, f1 51, f1 52, f1 53, f1 54, f1 55, f1 56, f1 57, f1 59, f1 60] } }
noncomputable abbrev lo : List Str := ["SnobolError", "plain_count"]
noncomputable def ev0 : Env := ⟨pg.main.scope, mainNs, mainNs, [], Str.empty, none, .ref 13, some 14, 0⟩
noncomputable def cE : Code := .body (behindTheImports pg) ev0
noncomputable def B0 : List Frame := [topFrame ⟨0, 0, 0, 0⟩]
noncomputable def an0 : Option Value := some (.ref 6)
noncomputable def sA (w : World) (os : OsState) : Shared := ⟨hA w.params, #[], drn0, 187, os⟩
noncomputable def uA (w : World) (os : OsState) : SharedT := ⟨tA w.params, 15, lf0, #[], drn0, 187, os⟩
noncomputable def uF (w : World) (os : OsState) : SharedT := ⟨tF w.params, 452, lf0, #[], drn0, 850, os⟩
noncomputable def sF (w : World) (os : OsState) : Shared := ⟨hF w.params, #[], drn0, 850, os⟩
theorem r_pre (w : World) (os : OsState) : topGo treeTable pg w 11 an0 12 ⟨boot_heap w.params, #[], boot_drawn, boot_toks, os⟩ (topStub pg) = some (sA w os, ⟨denote treeTable cE, cE, ⟨0, 0, 0, 0⟩, B0⟩) := by kernel_rfl
theorem r_block (w : World) (os : OsState) : segRun treeTable pg w 11 an0 1 1 (sA w os) (blockOf (behindTheImports pg) ev0 cE ⟨0, 0, 0, 0⟩ B0) = some (.next, (uA w os).abs, cE, ⟨0, 0, 0, 0⟩) := by kernel_rfl
theorem r_main (w : World) (os : OsState) : segRunT treeTable pg w 11 an0 1 2912 (uA w os) (piecesOf (behindTheImports pg) ev0 cE ⟨0, 0, 0, 0⟩ B0) = some (.next, uF w os, cE, Pos.mk 311 0 335 16) := by
  rw [Fast.te10110043849684766642, Fast.te14364793385576792824]
  kernel_rfl
theorem r_fin (w : World) (os : OsState) : topRun treeTable pg w 11 an0 2 (uF w os).abs (restOf [] ev0 cE (Pos.mk 311 0 335 16) B0) = some (sF w os) := by kernel_rfl
theorem r_all (w : World) (os : OsState) : topRun treeTable pg w 11 an0 (12 + (1 + (2912 + 2))) ⟨boot_heap w.params, #[], boot_drawn, boot_toks, os⟩ (topStub pg) = some (sF w os) := by
  have h1 := piece_app (rest := []) (segRun_of (r_main w os)) (r_fin w os)
  rw [List.append_nil] at h1
  exact go_top (r_pre w os) (piece_block (r_block w os) h1)
theorem o_op : opening pg = plainProg pg.main.scope.names := by kernel_rfl
theorem o_fence (s : Shared) : fenceModules? pg s = some s := by kernel_rfl
theorem o_size (w : World) : ((boot_heap w.params).isNs mainGlobals && (#[] : Array GenState).size == 0, (boot_heap w.params).objs.size, (boot_heap w.params).nsMap mainGlobals "__annotations__") = (true, 11, an0) := by kernel_rfl
end Mine

open PySem PySem.W PyProof.Rows PySem.Calls
namespace Mine
set_option autoImplicit false
set_option backward.match.sparseCases false
set_option linter.unusedVariables false
set_option maxRecDepth 1000000
set_option maxHeartbeats 0
noncomputable abbrev hk : Hook := kmHook KK kas kpf [441, 448]
noncomputable def Xt0 (s : Shared) : Bool := xlAt vw [] s && recOk PySem.Challenge.rw_xm0955_04.row.toRowW.records s
theorem l_a (w : World) (os : OsState) : (staticsOk (importedModules pg.main.body) (boot_heap w.params) (hF w.params) && namesBound pg (hF w.params) && gensDone (sF w os) && laidKept (boot_heap w.params) (hF w.params)) = true := by kernel_rfl
theorem l_b (w : World) (os : OsState) : openSeen vw lo (importedModules pg.main.body) Xt0 true (sF w os) = openGood vw lo := by kernel_rfl
theorem l_c (w : World) (os : OsState) : hk.obs (sF w os) = hk.val w := by kernel_rfl
theorem left0 : LeftO pg vw lo Xt0 hk.obs hk.val 5948 := LeftO.of_pieces (boot_open o_op rfl o_fence) o_size r_all (by rfl) (fun w => funext fun os => by
  have a := l_a w os
  have b := l_b w os
  have c := l_c w os
  exact Prod.ext a (Prod.ext b c))
theorem said0 : OpenLaw.wellSaid PySem.Challenge.rw_xm0955_04 = true := by kernel_rfl
end Mine

open PySem PySem.W PyProof.Rows PySem.Calls
namespace Mine
set_option autoImplicit false
set_option backward.match.sparseCases false
set_option linter.unusedVariables false
set_option maxRecDepth 100000
noncomputable def faL : List Nat := [21, 28, 35, 42, 135, 205, 219, 226, 264, 271, 278, 334, 376, 383, 390, 397, 404, 411, 418, 425, 439, 446, 212]
noncomputable def caL : List Nat := [138, 229]
noncomputable def faN (k : Nat) : Addr := (at? faL k).getD 0
noncomputable def caN (k : Nat) : Addr := (at? caL k).getD 0
noncomputable def dNS : List Names := [dns_give_names, dns_three_pieces, dns_spliced, dns_replace_once, dns_NameRef___init, dns_PlainHost___init, dns_PlainHost_assign, dns_PlainHost_step, dns_is_delayed, dns_settled, dns_chars_end, dns_notany_at, dns_one_end, dns_plain_end, dns_match_plain, dns_match_at, dns_tried, dns_advanced, dns_led_in, dns_led_out, dns_taken, dns_law_edges]
/-- what is to be known of a function, told two times -/
noncomputable abbrev Fx := Bool × List Stmt × Option Obj × ((Nat → Value) → Value → Value → Option Addr → Value → Value → Sem (List (Str × Value)))
noncomputable def fL (K : Frag) (FA CA : Nat → Addr) (k : Nat) (ns : Names) (fn : Fn) : Fx :=
  let fd := fdOf (objAt K (FA k)); let cd := cdOf fd
  (fnB K FA CA cd ns fn && (codeIn K fd.code cd.qual && keepIn K (.ref (FA k))), S.ers ns fn.body, K.lookup (FA k), fun v doc pm an cdv ct => bindArgs (fnX cd.name cd.qual cd.params cd.body cd.scope [] .none .none doc pm an cdv ct) ⟨(List.range fn.np).map v, []⟩)
noncomputable def fR (K : Frag) (FA : Nat → Addr) (k : Nat) (ns : Names) (fn : Fn) : Fx :=
  let o := objAt K (FA k); let fd := fdOf o; let cd := cdOf fd
  (true, cd.body, some ⟨o.cls, o.dict, .func (fnX cd.name cd.qual cd.params cd.body cd.scope [] .none .none fd.doc fd.pyModule fd.annotations fd.code fd.closureTuple), o.slots⟩, fun v _ _ _ _ _ => pure (((ns.take fn.np).map (·.1)).zip ((List.range fn.np).map v)))
noncomputable def fAll (f : Nat → Names → Fn → Fx) : Nat → List Names → List Fn → List Fx
  | k, ns :: l, fn :: r => f k ns fn :: fAll f (k + 1) l r
  | _, _, _ => []
theorem fAll_at {f g : Nat → Names → Fn → Fx} : ∀ {nl : List Names} {l : List Fn} {i k : Nat} {fn : Fn}, nl.length = l.length → fAll f i nl l = fAll g i nl l → at? l k = some fn → ∃ ns, f (i + k) ns fn = g (i + k) ns fn
  | _, [], i, k, fn, hl, h, e => (no e).elim
  | [], _ :: _, i, k, fn, hl, h, e => absurd hl (Nat.succ_ne_zero _).symm
  | ns :: nl, fn' :: l, i, k, fn, hl, h, e => by
    obtain ⟨h1, h2⟩ := List.cons.inj (show f i ns fn' :: fAll f (i + 1) nl l = g i ns fn' :: fAll g (i + 1) nl l from h)
    cases k with
    | zero => cases e; exact ⟨ns, h1⟩
    | succ k =>
      obtain ⟨ns', h3⟩ := fAll_at (Nat.succ.inj hl) h2 (show at? l k = some fn from e)
      rw [show i + 1 + k = i + (k + 1) by omega] at h3
      exact ⟨ns', h3⟩
theorem fx_all (P : Params) : fAll (fL (KK P) faN caN) 0 dNS dFT = fAll (fR (KK P) faN) 0 dNS dFT := by kernel_rfl
theorem fnAt_of {G : St} {k : Nat} {fn : Fn} {ns : Names} (h : fL G.K G.FA G.CA k ns fn = fR G.K G.FA k ns fn)
    (hN : ∀ i k' js, FS.nst i k' js ∈ fn.slots → ∀ L', NestOk G (envX (cdOf (fdOf (objAt G.K (G.FA k)))).qual (cdOf (fdOf (objAt G.K (G.FA k)))).scope L' (G.FA k) (fdOf (objAt G.K (G.FA k))).code []) ns i k' js) : ∃ cd ns oc od osl doc pm an cdv ct, FnAt1 G k fn cd ns oc od osl doc pm an cdv ct := by
  obtain ⟨h1, h⟩ := Prod.mk.inj h
  obtain ⟨h2, h⟩ := Prod.mk.inj h
  obtain ⟨h3, h4⟩ := Prod.mk.inj h
  obtain ⟨a1, a2⟩ := Bool.and_eq_true_iff.mp h1
  obtain ⟨a2, a3⟩ := Bool.and_eq_true_iff.mp a2
  refine ⟨_, _, _, _, _, _, _, _, _, _, fnB_ok a1 h2 fun doc pm an cdv ct vals hv => ?_, h3, a2, hN, a3⟩
  have e : (List.range fn.np).map (fun i => (vals[i]?).getD .none) = vals := by
    rw [← hv]
    refine List.ext_getElem? fun i => ?_
    rw [List.getElem?_map]
    by_cases hi : i < vals.length
    · rw [List.getElem?_range hi]; show some ((vals[i]?).getD .none) = _; rw [List.getElem?_eq_getElem hi]; rfl
    · rw [List.getElem?_eq_none (by simpa using Nat.not_lt.mp hi), List.getElem?_eq_none (Nat.not_lt.mp hi)]; rfl
  have := congrFun (congrFun (congrFun (congrFun (congrFun (congrFun h4 fun i => (vals[i]?).getD .none) doc) pm) an) cdv) ct
  simp only [e] at this
  exact this
noncomputable def GG (prog : Program) (w : World) (bl : List (Addr × List Value)) : St where
  K := KK w.params
  FA := faN
  CA := caN
  TB := [⟨445, 441, ⟨305, 66, 305, 81⟩, "_law_edges.<locals>.<lambda>"⟩, ⟨450, 448, ⟨331, 68, 331, 83⟩, "law.<locals>.<lambda>"⟩]
  BL := bl
  prog := prog
  w := w
noncomputable def nstB : Nat → Fn → Bool
  | k, fn => noNst fn || Nat.beq k 21
theorem nst_all : allN (fun k => ((at? dFT k).map (nstB k)).getD true) 22 = true := by kernel_rfl
theorem cls_all (P : Params) : allN (fun k => ((at? dCT k).map fun c => clsB (KK P) faN caN k c && keepIn (KK P) (.ref (caN k))).getD true) 2 = true := by kernel_rfl
theorem gv_ok (P : Params) : allN (fun g => match at? dGV g, gnL[g]? with | some (some v), some x => gB (KK P) faN caN x v | _, _ => true) 11 = true := by kernel_rfl
theorem copied : allN (fun a => !copiedNames.contains (an a)) 20 = true := by decide +kernel
theorem lam_b (k : Nat) (c : Cst × Nat × Pos) (h : lamOf k = some c) (pm cdv ct u : Value) : bindArgs (kla_fn (cdAt k).name (cdAt k).qual (cdAt k).params (lamX c) (cdAt k).scope [] pm cdv ct) ⟨[u], []⟩ = pure [(("here" : Str), u)] := by
  match k, h with
  | 0, h => cases h; kernel_rfl
  | 1, h => cases h; kernel_rfl
  | k + 2, h => cases h
theorem lam_s (k : Nat) (c : Cst × Nat × Pos) (h : lamOf k = some c) : (cdAt k).scope = { kind := .function, names := [("here", .local)], isGenerator := false, isCoroutine := false } := by
  match k, h with
  | 0, h => kernel_rfl
  | 1, h => kernel_rfl
  | k + 2, h => cases h
theorem nst_law_edges : df_law_edges.slots.all (fun f => !isNst f || (match f with | .nst i k js => Nat.beq i 0 && Nat.beq k 0 && js.isEmpty | _ => false)) = true := by kernel_rfl
section
variable (prog : Program) (w : World) (bl : List (Addr × List Value))
theorem nest21 (L' : Addr) : NestOk (GG prog w bl) (envX (cdOf (fdOf (objAt (KK w.params) (faN 21)))).qual (cdOf (fdOf (objAt (KK w.params) (faN 21)))).scope L' (faN 21) (fdOf (objAt (KK w.params) (faN 21))).code []) dns_law_edges 0 0 [] := by
  have hc : (fdOf (objAt (KK w.params) (faN 21))).code = .ref 445 := by kernel_rfl
  rw [hc]
  refine ⟨fun _ => ⟨_, _, L', faN 21, ⟨445, 441, ⟨305, 66, 305, 81⟩, "_law_edges.<locals>.<lambda>"⟩, _, rfl, List.mem_cons_self .., by kernel_rfl, by kernel_rfl, by kernel_rfl, by kernel_rfl, by kernel_rfl, by kernel_rfl⟩, fun h => absurd h (by decide +kernel)⟩
theorem cls_at {k : Nat} {c : Cl} (e : at? dCT k = some c) : clsB (KK w.params) faN caN k c = true ∧ keepIn (KK w.params) (.ref (caN k)) = true := by
  have := allN_ok (cls_all w.params) k (show k < 2 from lenOk_of ((at?_eq _ _).symm.trans e))
  rw [e] at this
  exact Bool.and_eq_true_iff.mp this
theorem fn_at {k : Nat} {fn : Fn} (e : at? dFT k = some fn) : ∃ cd ns oc od osl doc pm an cdv ct, FnAt1 (GG prog w bl) k fn cd ns oc od osl doc pm an cdv ct := by
  by_cases hk : k = 21
  · subst hk
    cases e
    exact fnAt_of (G := GG prog w bl) (ns := dns_law_edges) (by kernel_rfl) fun i k' js hm L' => by
      have h := List.all_eq_true.mp nst_law_edges _ hm
      simp only [isNst, Bool.not_true, Bool.false_or, Bool.and_eq_true, List.isEmpty_iff] at h
      obtain ⟨⟨h1, h2⟩, rfl⟩ := h
      rw [Nat.eq_of_beq_eq_true h1, Nat.eq_of_beq_eq_true h2]
      exact nest21 prog w bl L'
  · obtain ⟨ns, h⟩ := fAll_at rfl (fx_all w.params) e
    rw [Nat.zero_add] at h
    refine fnAt_of (G := GG prog w bl) h fun i k' js hm => ?_
    have := allN_ok nst_all k (show k < 22 from lenOk_of ((at?_eq _ _).symm.trans e))
    rw [e] at this
    rcases Bool.or_eq_true_iff.mp this with h1 | h1
    · exact absurd hm (noNst_ok h1 i k' js)
    · exact absurd (Nat.eq_of_beq_eq_true h1) hk
theorem static1 : Static (GG prog w bl) dFT dCT dGV where
  hT := by simp [GG]
  hC := {
    ok := fun k c e => (clsB_ok (G := GG prog w bl) (cls_at w e).1).1
    fns := fun k c e => (clsB_ok (G := GG prog w bl) (cls_at w e).1).2
    names := fun a ha => by simpa using allN_ok copied a ha }
  hG := fun g x v hx hv => by
    have hg : g < 11 := lenOk_of hx
    have := allN_ok (gv_ok w.params) g hg
    rw [hv, hx] at this
    exact gB_ok (G := GG prog w bl) this
  lam := fun k c h => ⟨"here", lam_b k c h, by rw [lam_s k c h]; rfl, by rw [lam_s k c h], by rw [lam_s k c h], by rw [lam_s k c h], fun z hz => by
    rw [lam_s k c h] at hz
    rw [List.mem_singleton.mp hz]; decide⟩
  cls := fun k c e => (cls_at w e).2
  fn := fun k fn e => fn_at prog w bl e
end
end Mine

open PySem PySem.W PyProof.Rows PySem.Calls
namespace Mine
set_option autoImplicit false
set_option backward.match.sparseCases false
set_option linter.unusedVariables false
set_option maxRecDepth 100000
section
variable {G : St} {A : Around} {env : Env} {h₀ : Heap} {L : Addr} {ns : Names} {m : Str → Option Value} {N : Led} {ρ : Rho}
theorem slots_forget {sl : List Slot} (hL : env.locals = L) (hk : env.kindOf (ns.at 0) = some .local) (S : Slots G L env ns m N ρ sl) : Slots G L env ns m N ρ (forget sl) := by
  cases sl with
  | nil => exact S
  | cons x sl =>
    exact ⟨S.len, S.nd, S.dbg, fun i y e => by
      cases i with
      | zero => cases e; exact .locN hL hk
      | succ i => exact S.ok (i + 1) y e⟩
end
end Mine

open PySem PySem.W PyProof.Rows PySem.Calls
namespace Mine
set_option autoImplicit false
set_option backward.match.sparseCases false
set_option linter.unusedVariables false
set_option maxRecDepth 100000
section
variable {G : St} {FT : List Fn} {CT : List Cl} {GV : List (Option MV)} {mm : Memo} {A : Around} {env : Env} {h₀ : Heap} {L : Addr} {m : Str → Option Value} {N : Led} {ρ : Rho} {s : Shared} {ns : Names}
/-- the first row of a law, a list of ints put into a name: no token need be there before it -/
theorem first_ok (Z : Static G FT CT GV) (hM : MemoOk G mm) {n i k : Nat} {c : Int} {np cp lp p : Pos} {es : List E} {sl sl1 : List Slot} {σ σ1 : List MO} {fl : Fl} (H : EnvOk G A env h₀ L (n + 4)) (hL : env.locals = L)
    (S : Slots G L env ns m N ρ sl) (I : Inv G h₀ L m N ρ σ s.heap (s.toks + 1)) (h : (run FT CT GV mm (n + 4)).s (.asg (.name i np) (.list (.cst (.int c) k cp :: es) lp) p) sl σ = some (fl, sl1, σ1)) :
    WpS G A h₀ L env ns m (exec ((Mine.S.asg (.name i np) (.list (.cst (.int c) k cp :: es) lp) p).er ns) env) sl1 σ1 (FlR G fl) N ρ s := by
  have hs := sound_run Z hM
  replace h : ((run FT CT GV mm (n + 3)).e (.list (.cst (.int c) k cp :: es) lp) sl σ).bind (fun x => ((run FT CT GV mm (n + 3)).a (.name i np) x.1 sl x.2).bind fun y => some (Fl.next, y)) = some (fl, sl1, σ1) := h
  obtain ⟨x, e1, h⟩ := bind_some h
  obtain ⟨y, e2, h⟩ := bind_some h
  cases h
  replace e1 : (((run FT CT GV mm (n + 1)).es es sl σ).bind fun y => some (MV.int c :: y.1, y.2)).bind (fun x => newL x.2 (x.1.map MV.wk)) = some x := e1
  obtain ⟨z, e3, e1⟩ := bind_some e1
  obtain ⟨q, e4, e3⟩ := bind_some e3
  cases e3
  have nr : NR (.list (.cst (.int c) k cp :: es) lp) := fun x hx => by cases hx
  show WpS G A h₀ L env ns m (exec (.Assign [(T.name i np).er ns] ((Mine.E.list (.cst (.int c) k cp :: es) lp).er ns) p) env) _ _ _ _ _ _
  rw [arm_exec_Assign]
  refine WpS.stand ?_
  rw [swapsNo (sl := sl) nr rfl]
  intro Q E qq
  refine wpAny_bind (wpAny_pure ?_)
  simp only [Bool.false_eq_true, if_false]
  refine wpAny_bind ?_
  show wpAny _ _ (eval (.List (Mine.E.ers ns (.cst (.int c) k cp :: es)) lp) env) _ _ _
  rw [arm_eval_List]
  refine wpAny_bind (wpAny_standAt ?_)
  rw [star_er (fun x hx => by cases hx)]
  refine wpAny_bind (spliced_cons (wpAny_Constant_int (k := k) (pos := cp) ?_))
  refine (hs (n + 1)).es (s := { s with toks := s.toks + 1 }) (H.le (by omega)) S I e4 _ _ fun us h₂ tk₂ N₂ ρ₂ I₂ x₂ r₂ => ?_
  refine newL_ok (s := { s with heap := h₂, toks := tk₂ }) (ws := .int c s.toks :: us) e1 (.cons (.int c _) r₂.wk) I₂ (fun hz Q E q => newList_K I₂.F I₂.W (fun D h' F' W' hlt => q D h' tk₂ F' W' hlt) (by rw [sizeLine_eq]; omega)) _ _ fun u h₃ tk₃ N₃ ρ₃ I₃ x₃ r₃ => ?_
  have x23 := x₂.trans x₃
  rw [storesNo (S.mono x23) nr rfl]
  refine wpAny_bind (wpAny_pure ?_)
  show wpAny _ _ (assignAll u ((assignEach [(T.name i np).er ns] env).map (·.2)) >>= fun _ => pure Flow.next) _ _ _
  rw [assignEach1]
  exact wpAny_bind (((hs (n + 3)).a (s := { s with heap := h₃, toks := tk₃ }) (H.le (by omega)) hL (S.mono x23) I₃ r₃ e2) _ _ fun _ h₄ tk₄ N₄ ρ₄ m₄ I₄ x₄ S₄ _ => wpAny_pure (qq _ h₄ tk₄ N₄ ρ₄ m₄ I₄ (x23.trans x₄) S₄ rfl))
/-- the body of the law: its two first rows, the script forgotten, then the rest -/
theorem body_ok (Z : Static G FT CT GV) (hM : MemoOk G mm) {n i k : Nat} {c : Int} {np cp lp p : Pos} {es : List E} {s2 : Mine.S} {rest : List Mine.S}
    {sl1 sl2 sl3 : List Slot} {sl : List Slot} {σ σ1 σ2 σ3 : List MO} {fl : Fl} (H : EnvOk G A env h₀ L (n + 4)) (hL : env.locals = L) (hk : env.kindOf (ns.at 0) = some .local)
    (S : Slots G L env ns m N ρ sl) (I : Inv G h₀ L m N ρ σ s.heap (s.toks + 1))
    (e1 : (run FT CT GV mm (n + 4)).s (.asg (.name i np) (.list (.cst (.int c) k cp :: es) lp) p) sl σ = some (.next, sl1, σ1)) (e2 : (run FT CT GV mm (n + 4)).s s2 sl1 σ1 = some (.next, sl2, σ2)) (e3 : (run FT CT GV mm (n + 4)).ss rest (forget sl2) σ2 = some (fl, sl3, σ3)) :
    WpS G A h₀ L env ns m (execs (Mine.S.ers ns (.asg (.name i np) (.list (.cst (.int c) k cp :: es) lp) p :: s2 :: rest)) env) sl3 σ3 (FlR G fl) N ρ s := by
  intro Q E q
  have hs := sound_run Z hM (n + 4)
  refine wpAny_execs_cons ((first_ok Z hM H hL S I e1) _ _ fun f h₁ tk N₁ ρ₁ m₁ I₁ x₁ S₁ r₁ => ?_)
  rw [show f = .next from r₁]
  refine wpAny_execs_cons ((hs.s H hL S₁ I₁ e2) _ _ fun g h₂ tk₂ N₂ ρ₂ m₂ I₂ x₂ S₂ r₂ => ?_)
  rw [show g = .next from r₂]
  exact (hs.ss H hL (slots_forget hL hk S₂) I₂ e3) _ _ fun f₃ h₃ tk₃ N₃ ρ₃ m₃ I₃ x₃ S₃ r₃ => q f₃ h₃ tk₃ N₃ ρ₃ m₃ I₃ (x₁.trans (x₂.trans x₃)) S₃ r₃
end
end Mine

open PySem PySem.W PyProof.Rows PySem.Calls
namespace Mine
set_option autoImplicit false
set_option backward.match.sparseCases false
set_option linter.unusedVariables false
set_option maxRecDepth 100000
set_option maxHeartbeats 4000000
theorem sqs (M Q a b c : Nat) : ((List.range 61).map fun k => hdQ (scr M Q a b c k)) = List.replicate 61 (hdQ (scr M Q a b c 0)) := by kernel_rfl
theorem sameQ (M Q a b c k : Nat) (h : k < 61) : hdQ (scr M Q a b c k) = hdQ (scr M Q a b c 0) := by
  have e := congrArg (fun l => l[k]?) (sqs M Q a b c)
  simp only [List.getElem?_map, List.getElem?_range h, List.getElem?_replicate, if_pos h, Option.map_some, Option.some.injEq] at e
  exact e
end Mine

open PySem PySem.W PyProof.Rows PySem.Calls
namespace Mine
set_option autoImplicit false
set_option backward.match.sparseCases false
set_option linter.unusedVariables false
set_option maxRecDepth 100000
set_option maxHeartbeats 4000000

noncomputable def fM : Nat → Nat
  | 0 => 1
  | 1 => 3
  | 2 => 16
  | _ => 125
noncomputable def fQ : Nat → Nat
  | 0 => 1
  | 1 => 2
  | 2 => 4
  | _ => 8
noncomputable def rr0 (a : Nat) : Bool := tlQ (hdQ [.ab 4 a])
noncomputable def rr1 (a b : Nat) : Bool := tlQ (hdQ [.ab 4 a, .ab (fM a) b])
noncomputable def rr2 (a b c : Nat) : Bool := tlQ (hdQ (scr (fM a) (fQ a) a b c 0))
theorem q0 : tlQ (hdQ []) = true := (by decide +kernel)
theorem alls {f : Nat → Bool} {n : Nat} (h1 : f n = true) (h2 : allN f n = true) : allN f (n + 1) = true := Bool.and_eq_true_iff.mpr ⟨h1, h2⟩
theorem q1 : allN rr0 4 = true := alls (by decide +kernel) (alls (by decide +kernel) (alls (by decide +kernel) (alls (by decide +kernel) ((rfl : allN (rr0) 0 = true)))))
theorem w1_0 : allN (rr1 0) 1 = true := alls (by decide +kernel) ((rfl : allN (rr1 0) 0 = true))
theorem w2_0_0 : allN (rr2 0 0) 1 = true := alls (by decide +kernel) ((rfl : allN (rr2 0 0) 0 = true))
theorem w2_0 : allN (fun b => allN (rr2 0 b) 1) 1 = true := alls (f := fun b => allN (rr2 0 b) 1) w2_0_0 ((rfl : allN (fun b => allN (rr2 0 b) 1) 0 = true))
theorem w1_1 : allN (rr1 1) 3 = true := alls (by decide +kernel) (alls (by decide +kernel) (alls (by decide +kernel) ((rfl : allN (rr1 1) 0 = true))))
theorem w2_1_0 : allN (rr2 1 0) 2 = true := alls (by decide +kernel) (alls (by decide +kernel) ((rfl : allN (rr2 1 0) 0 = true)))
theorem w2_1_1 : allN (rr2 1 1) 2 = true := alls (by decide +kernel) (alls (by decide +kernel) ((rfl : allN (rr2 1 1) 0 = true)))
theorem w2_1_2 : allN (rr2 1 2) 2 = true := alls (by decide +kernel) (alls (by decide +kernel) ((rfl : allN (rr2 1 2) 0 = true)))
theorem w2_1 : allN (fun b => allN (rr2 1 b) 2) 3 = true := alls (f := fun b => allN (rr2 1 b) 2) w2_1_2 (alls (f := fun b => allN (rr2 1 b) 2) w2_1_1 (alls (f := fun b => allN (rr2 1 b) 2) w2_1_0 ((rfl : allN (fun b => allN (rr2 1 b) 2) 0 = true))))
theorem w1_2 : allN (rr1 2) 16 = true := alls (by decide +kernel) (alls (by decide +kernel) (alls (by decide +kernel) (alls (by decide +kernel) (alls (by decide +kernel) (alls (by decide +kernel) (alls (by decide +kernel) (alls (by decide +kernel) (alls (by decide +kernel) (alls (by decide +kernel) (alls (by decide +kernel) (alls (by decide +kernel) (alls (by decide +kernel) (alls (by decide +kernel) (alls (by decide +kernel) (alls (by decide +kernel) ((rfl : allN (rr1 2) 0 = true)))))))))))))))))
theorem w2_2_0 : allN (rr2 2 0) 4 = true := alls (by decide +kernel) (alls (by decide +kernel) (alls (by decide +kernel) (alls (by decide +kernel) ((rfl : allN (rr2 2 0) 0 = true)))))
theorem w2_2_1 : allN (rr2 2 1) 4 = true := alls (by decide +kernel) (alls (by decide +kernel) (alls (by decide +kernel) (alls (by decide +kernel) ((rfl : allN (rr2 2 1) 0 = true)))))
theorem w2_2_2 : allN (rr2 2 2) 4 = true := alls (by decide +kernel) (alls (by decide +kernel) (alls (by decide +kernel) (alls (by decide +kernel) ((rfl : allN (rr2 2 2) 0 = true)))))
theorem w2_2_3 : allN (rr2 2 3) 4 = true := alls (by decide +kernel) (alls (by decide +kernel) (alls (by decide +kernel) (alls (by decide +kernel) ((rfl : allN (rr2 2 3) 0 = true)))))
theorem w2_2_4 : allN (rr2 2 4) 4 = true := alls (by decide +kernel) (alls (by decide +kernel) (alls (by decide +kernel) (alls (by decide +kernel) ((rfl : allN (rr2 2 4) 0 = true)))))
theorem w2_2_5 : allN (rr2 2 5) 4 = true := alls (by decide +kernel) (alls (by decide +kernel) (alls (by decide +kernel) (alls (by decide +kernel) ((rfl : allN (rr2 2 5) 0 = true)))))
theorem w2_2_6 : allN (rr2 2 6) 4 = true := alls (by decide +kernel) (alls (by decide +kernel) (alls (by decide +kernel) (alls (by decide +kernel) ((rfl : allN (rr2 2 6) 0 = true)))))
theorem w2_2_7 : allN (rr2 2 7) 4 = true := alls (by decide +kernel) (alls (by decide +kernel) (alls (by decide +kernel) (alls (by decide +kernel) ((rfl : allN (rr2 2 7) 0 = true)))))
theorem w2_2_8 : allN (rr2 2 8) 4 = true := alls (by decide +kernel) (alls (by decide +kernel) (alls (by decide +kernel) (alls (by decide +kernel) ((rfl : allN (rr2 2 8) 0 = true)))))
theorem w2_2_9 : allN (rr2 2 9) 4 = true := alls (by decide +kernel) (alls (by decide +kernel) (alls (by decide +kernel) (alls (by decide +kernel) ((rfl : allN (rr2 2 9) 0 = true)))))
theorem w2_2_10 : allN (rr2 2 10) 4 = true := alls (by decide +kernel) (alls (by decide +kernel) (alls (by decide +kernel) (alls (by decide +kernel) ((rfl : allN (rr2 2 10) 0 = true)))))
theorem w2_2_11 : allN (rr2 2 11) 4 = true := alls (by decide +kernel) (alls (by decide +kernel) (alls (by decide +kernel) (alls (by decide +kernel) ((rfl : allN (rr2 2 11) 0 = true)))))
theorem w2_2_12 : allN (rr2 2 12) 4 = true := alls (by decide +kernel) (alls (by decide +kernel) (alls (by decide +kernel) (alls (by decide +kernel) ((rfl : allN (rr2 2 12) 0 = true)))))
theorem w2_2_13 : allN (rr2 2 13) 4 = true := alls (by decide +kernel) (alls (by decide +kernel) (alls (by decide +kernel) (alls (by decide +kernel) ((rfl : allN (rr2 2 13) 0 = true)))))
theorem w2_2_14 : allN (rr2 2 14) 4 = true := alls (by decide +kernel) (alls (by decide +kernel) (alls (by decide +kernel) (alls (by decide +kernel) ((rfl : allN (rr2 2 14) 0 = true)))))
theorem w2_2_15 : allN (rr2 2 15) 4 = true := alls (by decide +kernel) (alls (by decide +kernel) (alls (by decide +kernel) (alls (by decide +kernel) ((rfl : allN (rr2 2 15) 0 = true)))))
theorem w2_2 : allN (fun b => allN (rr2 2 b) 4) 16 = true := alls (f := fun b => allN (rr2 2 b) 4) w2_2_15 (alls (f := fun b => allN (rr2 2 b) 4) w2_2_14 (alls (f := fun b => allN (rr2 2 b) 4) w2_2_13 (alls (f := fun b => allN (rr2 2 b) 4) w2_2_12 (alls (f := fun b => allN (rr2 2 b) 4) w2_2_11 (alls (f := fun b => allN (rr2 2 b) 4) w2_2_10 (alls (f := fun b => allN (rr2 2 b) 4) w2_2_9 (alls (f := fun b => allN (rr2 2 b) 4) w2_2_8 (alls (f := fun b => allN (rr2 2 b) 4) w2_2_7 (alls (f := fun b => allN (rr2 2 b) 4) w2_2_6 (alls (f := fun b => allN (rr2 2 b) 4) w2_2_5 (alls (f := fun b => allN (rr2 2 b) 4) w2_2_4 (alls (f := fun b => allN (rr2 2 b) 4) w2_2_3 (alls (f := fun b => allN (rr2 2 b) 4) w2_2_2 (alls (f := fun b => allN (rr2 2 b) 4) w2_2_1 (alls (f := fun b => allN (rr2 2 b) 4) w2_2_0 ((rfl : allN (fun b => allN (rr2 2 b) 4) 0 = true)))))))))))))))))
theorem w1_3_0 : allN (rr1 3) 5 = true := alls (by decide +kernel) (alls (by decide +kernel) (alls (by decide +kernel) (alls (by decide +kernel) (alls (by decide +kernel) ((rfl : allN (rr1 3) 0 = true))))))
theorem w1_3_5 : allN (rr1 3) 10 = true := alls (by decide +kernel) (alls (by decide +kernel) (alls (by decide +kernel) (alls (by decide +kernel) (alls (by decide +kernel) (w1_3_0)))))
theorem w1_3_10 : allN (rr1 3) 15 = true := alls (by decide +kernel) (alls (by decide +kernel) (alls (by decide +kernel) (alls (by decide +kernel) (alls (by decide +kernel) (w1_3_5)))))
theorem w1_3_15 : allN (rr1 3) 20 = true := alls (by decide +kernel) (alls (by decide +kernel) (alls (by decide +kernel) (alls (by decide +kernel) (alls (by decide +kernel) (w1_3_10)))))
theorem w1_3_20 : allN (rr1 3) 25 = true := alls (by decide +kernel) (alls (by decide +kernel) (alls (by decide +kernel) (alls (by decide +kernel) (alls (by decide +kernel) (w1_3_15)))))
theorem w1_3_25 : allN (rr1 3) 30 = true := alls (by decide +kernel) (alls (by decide +kernel) (alls (by decide +kernel) (alls (by decide +kernel) (alls (by decide +kernel) (w1_3_20)))))
theorem w1_3_30 : allN (rr1 3) 35 = true := alls (by decide +kernel) (alls (by decide +kernel) (alls (by decide +kernel) (alls (by decide +kernel) (alls (by decide +kernel) (w1_3_25)))))
theorem w1_3_35 : allN (rr1 3) 40 = true := alls (by decide +kernel) (alls (by decide +kernel) (alls (by decide +kernel) (alls (by decide +kernel) (alls (by decide +kernel) (w1_3_30)))))
theorem w1_3_40 : allN (rr1 3) 45 = true := alls (by decide +kernel) (alls (by decide +kernel) (alls (by decide +kernel) (alls (by decide +kernel) (alls (by decide +kernel) (w1_3_35)))))
theorem w1_3_45 : allN (rr1 3) 50 = true := alls (by decide +kernel) (alls (by decide +kernel) (alls (by decide +kernel) (alls (by decide +kernel) (alls (by decide +kernel) (w1_3_40)))))
theorem w1_3_50 : allN (rr1 3) 55 = true := alls (by decide +kernel) (alls (by decide +kernel) (alls (by decide +kernel) (alls (by decide +kernel) (alls (by decide +kernel) (w1_3_45)))))
theorem w1_3_55 : allN (rr1 3) 60 = true := alls (by decide +kernel) (alls (by decide +kernel) (alls (by decide +kernel) (alls (by decide +kernel) (alls (by decide +kernel) (w1_3_50)))))
theorem w1_3_60 : allN (rr1 3) 65 = true := alls (by decide +kernel) (alls (by decide +kernel) (alls (by decide +kernel) (alls (by decide +kernel) (alls (by decide +kernel) (w1_3_55)))))
theorem w1_3_65 : allN (rr1 3) 70 = true := alls (by decide +kernel) (alls (by decide +kernel) (alls (by decide +kernel) (alls (by decide +kernel) (alls (by decide +kernel) (w1_3_60)))))
theorem w1_3_70 : allN (rr1 3) 75 = true := alls (by decide +kernel) (alls (by decide +kernel) (alls (by decide +kernel) (alls (by decide +kernel) (alls (by decide +kernel) (w1_3_65)))))
theorem w1_3_75 : allN (rr1 3) 80 = true := alls (by decide +kernel) (alls (by decide +kernel) (alls (by decide +kernel) (alls (by decide +kernel) (alls (by decide +kernel) (w1_3_70)))))
theorem w1_3_80 : allN (rr1 3) 85 = true := alls (by decide +kernel) (alls (by decide +kernel) (alls (by decide +kernel) (alls (by decide +kernel) (alls (by decide +kernel) (w1_3_75)))))
theorem w1_3_85 : allN (rr1 3) 90 = true := alls (by decide +kernel) (alls (by decide +kernel) (alls (by decide +kernel) (alls (by decide +kernel) (alls (by decide +kernel) (w1_3_80)))))
theorem w1_3_90 : allN (rr1 3) 95 = true := alls (by decide +kernel) (alls (by decide +kernel) (alls (by decide +kernel) (alls (by decide +kernel) (alls (by decide +kernel) (w1_3_85)))))
theorem w1_3_95 : allN (rr1 3) 100 = true := alls (by decide +kernel) (alls (by decide +kernel) (alls (by decide +kernel) (alls (by decide +kernel) (alls (by decide +kernel) (w1_3_90)))))
theorem w1_3_100 : allN (rr1 3) 105 = true := alls (by decide +kernel) (alls (by decide +kernel) (alls (by decide +kernel) (alls (by decide +kernel) (alls (by decide +kernel) (w1_3_95)))))
theorem w1_3_105 : allN (rr1 3) 110 = true := alls (by decide +kernel) (alls (by decide +kernel) (alls (by decide +kernel) (alls (by decide +kernel) (alls (by decide +kernel) (w1_3_100)))))
theorem w1_3_110 : allN (rr1 3) 115 = true := alls (by decide +kernel) (alls (by decide +kernel) (alls (by decide +kernel) (alls (by decide +kernel) (alls (by decide +kernel) (w1_3_105)))))
theorem w1_3_115 : allN (rr1 3) 120 = true := alls (by decide +kernel) (alls (by decide +kernel) (alls (by decide +kernel) (alls (by decide +kernel) (alls (by decide +kernel) (w1_3_110)))))
theorem w1_3_120 : allN (rr1 3) 125 = true := alls (by decide +kernel) (alls (by decide +kernel) (alls (by decide +kernel) (alls (by decide +kernel) (alls (by decide +kernel) (w1_3_115)))))
theorem w1_3 : allN (rr1 3) 125 = true := w1_3_120
theorem w2_3_0 : allN (rr2 3 0) 8 = true := alls (by decide +kernel) (alls (by decide +kernel) (alls (by decide +kernel) (alls (by decide +kernel) (alls (by decide +kernel) (alls (by decide +kernel) (alls (by decide +kernel) (alls (by decide +kernel) ((rfl : allN (rr2 3 0) 0 = true)))))))))
theorem w2_3_1 : allN (rr2 3 1) 8 = true := alls (by decide +kernel) (alls (by decide +kernel) (alls (by decide +kernel) (alls (by decide +kernel) (alls (by decide +kernel) (alls (by decide +kernel) (alls (by decide +kernel) (alls (by decide +kernel) ((rfl : allN (rr2 3 1) 0 = true)))))))))
theorem w2_3_2 : allN (rr2 3 2) 8 = true := alls (by decide +kernel) (alls (by decide +kernel) (alls (by decide +kernel) (alls (by decide +kernel) (alls (by decide +kernel) (alls (by decide +kernel) (alls (by decide +kernel) (alls (by decide +kernel) ((rfl : allN (rr2 3 2) 0 = true)))))))))
theorem w2_3_3 : allN (rr2 3 3) 8 = true := alls (by decide +kernel) (alls (by decide +kernel) (alls (by decide +kernel) (alls (by decide +kernel) (alls (by decide +kernel) (alls (by decide +kernel) (alls (by decide +kernel) (alls (by decide +kernel) ((rfl : allN (rr2 3 3) 0 = true)))))))))
theorem w2_3_4 : allN (rr2 3 4) 8 = true := alls (by decide +kernel) (alls (by decide +kernel) (alls (by decide +kernel) (alls (by decide +kernel) (alls (by decide +kernel) (alls (by decide +kernel) (alls (by decide +kernel) (alls (by decide +kernel) ((rfl : allN (rr2 3 4) 0 = true)))))))))
theorem w2_3_5 : allN (rr2 3 5) 8 = true := alls (by decide +kernel) (alls (by decide +kernel) (alls (by decide +kernel) (alls (by decide +kernel) (alls (by decide +kernel) (alls (by decide +kernel) (alls (by decide +kernel) (alls (by decide +kernel) ((rfl : allN (rr2 3 5) 0 = true)))))))))
theorem w2_3_6 : allN (rr2 3 6) 8 = true := alls (by decide +kernel) (alls (by decide +kernel) (alls (by decide +kernel) (alls (by decide +kernel) (alls (by decide +kernel) (alls (by decide +kernel) (alls (by decide +kernel) (alls (by decide +kernel) ((rfl : allN (rr2 3 6) 0 = true)))))))))
theorem w2_3_7 : allN (rr2 3 7) 8 = true := alls (by decide +kernel) (alls (by decide +kernel) (alls (by decide +kernel) (alls (by decide +kernel) (alls (by decide +kernel) (alls (by decide +kernel) (alls (by decide +kernel) (alls (by decide +kernel) ((rfl : allN (rr2 3 7) 0 = true)))))))))
theorem w2_3_8 : allN (rr2 3 8) 8 = true := alls (by decide +kernel) (alls (by decide +kernel) (alls (by decide +kernel) (alls (by decide +kernel) (alls (by decide +kernel) (alls (by decide +kernel) (alls (by decide +kernel) (alls (by decide +kernel) ((rfl : allN (rr2 3 8) 0 = true)))))))))
theorem w2_3_9 : allN (rr2 3 9) 8 = true := alls (by decide +kernel) (alls (by decide +kernel) (alls (by decide +kernel) (alls (by decide +kernel) (alls (by decide +kernel) (alls (by decide +kernel) (alls (by decide +kernel) (alls (by decide +kernel) ((rfl : allN (rr2 3 9) 0 = true)))))))))
theorem w2_3_10 : allN (rr2 3 10) 8 = true := alls (by decide +kernel) (alls (by decide +kernel) (alls (by decide +kernel) (alls (by decide +kernel) (alls (by decide +kernel) (alls (by decide +kernel) (alls (by decide +kernel) (alls (by decide +kernel) ((rfl : allN (rr2 3 10) 0 = true)))))))))
theorem w2_3_11 : allN (rr2 3 11) 8 = true := alls (by decide +kernel) (alls (by decide +kernel) (alls (by decide +kernel) (alls (by decide +kernel) (alls (by decide +kernel) (alls (by decide +kernel) (alls (by decide +kernel) (alls (by decide +kernel) ((rfl : allN (rr2 3 11) 0 = true)))))))))
theorem w2_3_12 : allN (rr2 3 12) 8 = true := alls (by decide +kernel) (alls (by decide +kernel) (alls (by decide +kernel) (alls (by decide +kernel) (alls (by decide +kernel) (alls (by decide +kernel) (alls (by decide +kernel) (alls (by decide +kernel) ((rfl : allN (rr2 3 12) 0 = true)))))))))
theorem w2_3_13 : allN (rr2 3 13) 8 = true := alls (by decide +kernel) (alls (by decide +kernel) (alls (by decide +kernel) (alls (by decide +kernel) (alls (by decide +kernel) (alls (by decide +kernel) (alls (by decide +kernel) (alls (by decide +kernel) ((rfl : allN (rr2 3 13) 0 = true)))))))))
theorem w2_3_14 : allN (rr2 3 14) 8 = true := alls (by decide +kernel) (alls (by decide +kernel) (alls (by decide +kernel) (alls (by decide +kernel) (alls (by decide +kernel) (alls (by decide +kernel) (alls (by decide +kernel) (alls (by decide +kernel) ((rfl : allN (rr2 3 14) 0 = true)))))))))
theorem w2_3_15 : allN (rr2 3 15) 8 = true := alls (by decide +kernel) (alls (by decide +kernel) (alls (by decide +kernel) (alls (by decide +kernel) (alls (by decide +kernel) (alls (by decide +kernel) (alls (by decide +kernel) (alls (by decide +kernel) ((rfl : allN (rr2 3 15) 0 = true)))))))))
theorem w2_3_16 : allN (rr2 3 16) 8 = true := alls (by decide +kernel) (alls (by decide +kernel) (alls (by decide +kernel) (alls (by decide +kernel) (alls (by decide +kernel) (alls (by decide +kernel) (alls (by decide +kernel) (alls (by decide +kernel) ((rfl : allN (rr2 3 16) 0 = true)))))))))
theorem w2_3_17 : allN (rr2 3 17) 8 = true := alls (by decide +kernel) (alls (by decide +kernel) (alls (by decide +kernel) (alls (by decide +kernel) (alls (by decide +kernel) (alls (by decide +kernel) (alls (by decide +kernel) (alls (by decide +kernel) ((rfl : allN (rr2 3 17) 0 = true)))))))))
theorem w2_3_18 : allN (rr2 3 18) 8 = true := alls (by decide +kernel) (alls (by decide +kernel) (alls (by decide +kernel) (alls (by decide +kernel) (alls (by decide +kernel) (alls (by decide +kernel) (alls (by decide +kernel) (alls (by decide +kernel) ((rfl : allN (rr2 3 18) 0 = true)))))))))
theorem w2_3_19 : allN (rr2 3 19) 8 = true := alls (by decide +kernel) (alls (by decide +kernel) (alls (by decide +kernel) (alls (by decide +kernel) (alls (by decide +kernel) (alls (by decide +kernel) (alls (by decide +kernel) (alls (by decide +kernel) ((rfl : allN (rr2 3 19) 0 = true)))))))))
theorem w2_3_20 : allN (rr2 3 20) 8 = true := alls (by decide +kernel) (alls (by decide +kernel) (alls (by decide +kernel) (alls (by decide +kernel) (alls (by decide +kernel) (alls (by decide +kernel) (alls (by decide +kernel) (alls (by decide +kernel) ((rfl : allN (rr2 3 20) 0 = true)))))))))
theorem w2_3_21 : allN (rr2 3 21) 8 = true := alls (by decide +kernel) (alls (by decide +kernel) (alls (by decide +kernel) (alls (by decide +kernel) (alls (by decide +kernel) (alls (by decide +kernel) (alls (by decide +kernel) (alls (by decide +kernel) ((rfl : allN (rr2 3 21) 0 = true)))))))))
theorem w2_3_22 : allN (rr2 3 22) 8 = true := alls (by decide +kernel) (alls (by decide +kernel) (alls (by decide +kernel) (alls (by decide +kernel) (alls (by decide +kernel) (alls (by decide +kernel) (alls (by decide +kernel) (alls (by decide +kernel) ((rfl : allN (rr2 3 22) 0 = true)))))))))
theorem w2_3_23 : allN (rr2 3 23) 8 = true := alls (by decide +kernel) (alls (by decide +kernel) (alls (by decide +kernel) (alls (by decide +kernel) (alls (by decide +kernel) (alls (by decide +kernel) (alls (by decide +kernel) (alls (by decide +kernel) ((rfl : allN (rr2 3 23) 0 = true)))))))))
theorem w2_3_24 : allN (rr2 3 24) 8 = true := alls (by decide +kernel) (alls (by decide +kernel) (alls (by decide +kernel) (alls (by decide +kernel) (alls (by decide +kernel) (alls (by decide +kernel) (alls (by decide +kernel) (alls (by decide +kernel) ((rfl : allN (rr2 3 24) 0 = true)))))))))
theorem w2_3_25 : allN (rr2 3 25) 8 = true := alls (by decide +kernel) (alls (by decide +kernel) (alls (by decide +kernel) (alls (by decide +kernel) (alls (by decide +kernel) (alls (by decide +kernel) (alls (by decide +kernel) (alls (by decide +kernel) ((rfl : allN (rr2 3 25) 0 = true)))))))))
theorem w2_3_26 : allN (rr2 3 26) 8 = true := alls (by decide +kernel) (alls (by decide +kernel) (alls (by decide +kernel) (alls (by decide +kernel) (alls (by decide +kernel) (alls (by decide +kernel) (alls (by decide +kernel) (alls (by decide +kernel) ((rfl : allN (rr2 3 26) 0 = true)))))))))
theorem w2_3_27 : allN (rr2 3 27) 8 = true := alls (by decide +kernel) (alls (by decide +kernel) (alls (by decide +kernel) (alls (by decide +kernel) (alls (by decide +kernel) (alls (by decide +kernel) (alls (by decide +kernel) (alls (by decide +kernel) ((rfl : allN (rr2 3 27) 0 = true)))))))))
theorem w2_3_28 : allN (rr2 3 28) 8 = true := alls (by decide +kernel) (alls (by decide +kernel) (alls (by decide +kernel) (alls (by decide +kernel) (alls (by decide +kernel) (alls (by decide +kernel) (alls (by decide +kernel) (alls (by decide +kernel) ((rfl : allN (rr2 3 28) 0 = true)))))))))
theorem w2_3_29 : allN (rr2 3 29) 8 = true := alls (by decide +kernel) (alls (by decide +kernel) (alls (by decide +kernel) (alls (by decide +kernel) (alls (by decide +kernel) (alls (by decide +kernel) (alls (by decide +kernel) (alls (by decide +kernel) ((rfl : allN (rr2 3 29) 0 = true)))))))))
theorem w2_3_30 : allN (rr2 3 30) 8 = true := alls (by decide +kernel) (alls (by decide +kernel) (alls (by decide +kernel) (alls (by decide +kernel) (alls (by decide +kernel) (alls (by decide +kernel) (alls (by decide +kernel) (alls (by decide +kernel) ((rfl : allN (rr2 3 30) 0 = true)))))))))
theorem w2_3_31 : allN (rr2 3 31) 8 = true := alls (by decide +kernel) (alls (by decide +kernel) (alls (by decide +kernel) (alls (by decide +kernel) (alls (by decide +kernel) (alls (by decide +kernel) (alls (by decide +kernel) (alls (by decide +kernel) ((rfl : allN (rr2 3 31) 0 = true)))))))))
theorem w2_3_32 : allN (rr2 3 32) 8 = true := alls (by decide +kernel) (alls (by decide +kernel) (alls (by decide +kernel) (alls (by decide +kernel) (alls (by decide +kernel) (alls (by decide +kernel) (alls (by decide +kernel) (alls (by decide +kernel) ((rfl : allN (rr2 3 32) 0 = true)))))))))
theorem w2_3_33 : allN (rr2 3 33) 8 = true := alls (by decide +kernel) (alls (by decide +kernel) (alls (by decide +kernel) (alls (by decide +kernel) (alls (by decide +kernel) (alls (by decide +kernel) (alls (by decide +kernel) (alls (by decide +kernel) ((rfl : allN (rr2 3 33) 0 = true)))))))))
theorem w2_3_34 : allN (rr2 3 34) 8 = true := alls (by decide +kernel) (alls (by decide +kernel) (alls (by decide +kernel) (alls (by decide +kernel) (alls (by decide +kernel) (alls (by decide +kernel) (alls (by decide +kernel) (alls (by decide +kernel) ((rfl : allN (rr2 3 34) 0 = true)))))))))
theorem w2_3_35 : allN (rr2 3 35) 8 = true := alls (by decide +kernel) (alls (by decide +kernel) (alls (by decide +kernel) (alls (by decide +kernel) (alls (by decide +kernel) (alls (by decide +kernel) (alls (by decide +kernel) (alls (by decide +kernel) ((rfl : allN (rr2 3 35) 0 = true)))))))))
theorem w2_3_36 : allN (rr2 3 36) 8 = true := alls (by decide +kernel) (alls (by decide +kernel) (alls (by decide +kernel) (alls (by decide +kernel) (alls (by decide +kernel) (alls (by decide +kernel) (alls (by decide +kernel) (alls (by decide +kernel) ((rfl : allN (rr2 3 36) 0 = true)))))))))
theorem w2_3_37 : allN (rr2 3 37) 8 = true := alls (by decide +kernel) (alls (by decide +kernel) (alls (by decide +kernel) (alls (by decide +kernel) (alls (by decide +kernel) (alls (by decide +kernel) (alls (by decide +kernel) (alls (by decide +kernel) ((rfl : allN (rr2 3 37) 0 = true)))))))))
theorem w2_3_38 : allN (rr2 3 38) 8 = true := alls (by decide +kernel) (alls (by decide +kernel) (alls (by decide +kernel) (alls (by decide +kernel) (alls (by decide +kernel) (alls (by decide +kernel) (alls (by decide +kernel) (alls (by decide +kernel) ((rfl : allN (rr2 3 38) 0 = true)))))))))
theorem w2_3_39 : allN (rr2 3 39) 8 = true := alls (by decide +kernel) (alls (by decide +kernel) (alls (by decide +kernel) (alls (by decide +kernel) (alls (by decide +kernel) (alls (by decide +kernel) (alls (by decide +kernel) (alls (by decide +kernel) ((rfl : allN (rr2 3 39) 0 = true)))))))))
theorem w2_3_40 : allN (rr2 3 40) 8 = true := alls (by decide +kernel) (alls (by decide +kernel) (alls (by decide +kernel) (alls (by decide +kernel) (alls (by decide +kernel) (alls (by decide +kernel) (alls (by decide +kernel) (alls (by decide +kernel) ((rfl : allN (rr2 3 40) 0 = true)))))))))
theorem w2_3_41 : allN (rr2 3 41) 8 = true := alls (by decide +kernel) (alls (by decide +kernel) (alls (by decide +kernel) (alls (by decide +kernel) (alls (by decide +kernel) (alls (by decide +kernel) (alls (by decide +kernel) (alls (by decide +kernel) ((rfl : allN (rr2 3 41) 0 = true)))))))))
theorem w2_3_42 : allN (rr2 3 42) 8 = true := alls (by decide +kernel) (alls (by decide +kernel) (alls (by decide +kernel) (alls (by decide +kernel) (alls (by decide +kernel) (alls (by decide +kernel) (alls (by decide +kernel) (alls (by decide +kernel) ((rfl : allN (rr2 3 42) 0 = true)))))))))
theorem w2_3_43 : allN (rr2 3 43) 8 = true := alls (by decide +kernel) (alls (by decide +kernel) (alls (by decide +kernel) (alls (by decide +kernel) (alls (by decide +kernel) (alls (by decide +kernel) (alls (by decide +kernel) (alls (by decide +kernel) ((rfl : allN (rr2 3 43) 0 = true)))))))))
theorem w2_3_44 : allN (rr2 3 44) 8 = true := alls (by decide +kernel) (alls (by decide +kernel) (alls (by decide +kernel) (alls (by decide +kernel) (alls (by decide +kernel) (alls (by decide +kernel) (alls (by decide +kernel) (alls (by decide +kernel) ((rfl : allN (rr2 3 44) 0 = true)))))))))
theorem w2_3_45 : allN (rr2 3 45) 8 = true := alls (by decide +kernel) (alls (by decide +kernel) (alls (by decide +kernel) (alls (by decide +kernel) (alls (by decide +kernel) (alls (by decide +kernel) (alls (by decide +kernel) (alls (by decide +kernel) ((rfl : allN (rr2 3 45) 0 = true)))))))))
theorem w2_3_46 : allN (rr2 3 46) 8 = true := alls (by decide +kernel) (alls (by decide +kernel) (alls (by decide +kernel) (alls (by decide +kernel) (alls (by decide +kernel) (alls (by decide +kernel) (alls (by decide +kernel) (alls (by decide +kernel) ((rfl : allN (rr2 3 46) 0 = true)))))))))
theorem w2_3_47 : allN (rr2 3 47) 8 = true := alls (by decide +kernel) (alls (by decide +kernel) (alls (by decide +kernel) (alls (by decide +kernel) (alls (by decide +kernel) (alls (by decide +kernel) (alls (by decide +kernel) (alls (by decide +kernel) ((rfl : allN (rr2 3 47) 0 = true)))))))))
theorem w2_3_48 : allN (rr2 3 48) 8 = true := alls (by decide +kernel) (alls (by decide +kernel) (alls (by decide +kernel) (alls (by decide +kernel) (alls (by decide +kernel) (alls (by decide +kernel) (alls (by decide +kernel) (alls (by decide +kernel) ((rfl : allN (rr2 3 48) 0 = true)))))))))
theorem w2_3_49 : allN (rr2 3 49) 8 = true := alls (by decide +kernel) (alls (by decide +kernel) (alls (by decide +kernel) (alls (by decide +kernel) (alls (by decide +kernel) (alls (by decide +kernel) (alls (by decide +kernel) (alls (by decide +kernel) ((rfl : allN (rr2 3 49) 0 = true)))))))))
theorem w2_3_50 : allN (rr2 3 50) 8 = true := alls (by decide +kernel) (alls (by decide +kernel) (alls (by decide +kernel) (alls (by decide +kernel) (alls (by decide +kernel) (alls (by decide +kernel) (alls (by decide +kernel) (alls (by decide +kernel) ((rfl : allN (rr2 3 50) 0 = true)))))))))
theorem w2_3_51 : allN (rr2 3 51) 8 = true := alls (by decide +kernel) (alls (by decide +kernel) (alls (by decide +kernel) (alls (by decide +kernel) (alls (by decide +kernel) (alls (by decide +kernel) (alls (by decide +kernel) (alls (by decide +kernel) ((rfl : allN (rr2 3 51) 0 = true)))))))))
theorem w2_3_52 : allN (rr2 3 52) 8 = true := alls (by decide +kernel) (alls (by decide +kernel) (alls (by decide +kernel) (alls (by decide +kernel) (alls (by decide +kernel) (alls (by decide +kernel) (alls (by decide +kernel) (alls (by decide +kernel) ((rfl : allN (rr2 3 52) 0 = true)))))))))
theorem w2_3_53 : allN (rr2 3 53) 8 = true := alls (by decide +kernel) (alls (by decide +kernel) (alls (by decide +kernel) (alls (by decide +kernel) (alls (by decide +kernel) (alls (by decide +kernel) (alls (by decide +kernel) (alls (by decide +kernel) ((rfl : allN (rr2 3 53) 0 = true)))))))))
theorem w2_3_54 : allN (rr2 3 54) 8 = true := alls (by decide +kernel) (alls (by decide +kernel) (alls (by decide +kernel) (alls (by decide +kernel) (alls (by decide +kernel) (alls (by decide +kernel) (alls (by decide +kernel) (alls (by decide +kernel) ((rfl : allN (rr2 3 54) 0 = true)))))))))
theorem w2_3_55 : allN (rr2 3 55) 8 = true := alls (by decide +kernel) (alls (by decide +kernel) (alls (by decide +kernel) (alls (by decide +kernel) (alls (by decide +kernel) (alls (by decide +kernel) (alls (by decide +kernel) (alls (by decide +kernel) ((rfl : allN (rr2 3 55) 0 = true)))))))))
theorem w2_3_56 : allN (rr2 3 56) 8 = true := alls (by decide +kernel) (alls (by decide +kernel) (alls (by decide +kernel) (alls (by decide +kernel) (alls (by decide +kernel) (alls (by decide +kernel) (alls (by decide +kernel) (alls (by decide +kernel) ((rfl : allN (rr2 3 56) 0 = true)))))))))
theorem w2_3_57 : allN (rr2 3 57) 8 = true := alls (by decide +kernel) (alls (by decide +kernel) (alls (by decide +kernel) (alls (by decide +kernel) (alls (by decide +kernel) (alls (by decide +kernel) (alls (by decide +kernel) (alls (by decide +kernel) ((rfl : allN (rr2 3 57) 0 = true)))))))))
theorem w2_3_58 : allN (rr2 3 58) 8 = true := alls (by decide +kernel) (alls (by decide +kernel) (alls (by decide +kernel) (alls (by decide +kernel) (alls (by decide +kernel) (alls (by decide +kernel) (alls (by decide +kernel) (alls (by decide +kernel) ((rfl : allN (rr2 3 58) 0 = true)))))))))
theorem w2_3_59 : allN (rr2 3 59) 8 = true := alls (by decide +kernel) (alls (by decide +kernel) (alls (by decide +kernel) (alls (by decide +kernel) (alls (by decide +kernel) (alls (by decide +kernel) (alls (by decide +kernel) (alls (by decide +kernel) ((rfl : allN (rr2 3 59) 0 = true)))))))))
theorem w2_3_60 : allN (rr2 3 60) 8 = true := alls (by decide +kernel) (alls (by decide +kernel) (alls (by decide +kernel) (alls (by decide +kernel) (alls (by decide +kernel) (alls (by decide +kernel) (alls (by decide +kernel) (alls (by decide +kernel) ((rfl : allN (rr2 3 60) 0 = true)))))))))
theorem w2_3_61 : allN (rr2 3 61) 8 = true := alls (by decide +kernel) (alls (by decide +kernel) (alls (by decide +kernel) (alls (by decide +kernel) (alls (by decide +kernel) (alls (by decide +kernel) (alls (by decide +kernel) (alls (by decide +kernel) ((rfl : allN (rr2 3 61) 0 = true)))))))))
theorem w2_3_62 : allN (rr2 3 62) 8 = true := alls (by decide +kernel) (alls (by decide +kernel) (alls (by decide +kernel) (alls (by decide +kernel) (alls (by decide +kernel) (alls (by decide +kernel) (alls (by decide +kernel) (alls (by decide +kernel) ((rfl : allN (rr2 3 62) 0 = true)))))))))
theorem w2_3_63 : allN (rr2 3 63) 8 = true := alls (by decide +kernel) (alls (by decide +kernel) (alls (by decide +kernel) (alls (by decide +kernel) (alls (by decide +kernel) (alls (by decide +kernel) (alls (by decide +kernel) (alls (by decide +kernel) ((rfl : allN (rr2 3 63) 0 = true)))))))))
theorem w2_3_64 : allN (rr2 3 64) 8 = true := alls (by decide +kernel) (alls (by decide +kernel) (alls (by decide +kernel) (alls (by decide +kernel) (alls (by decide +kernel) (alls (by decide +kernel) (alls (by decide +kernel) (alls (by decide +kernel) ((rfl : allN (rr2 3 64) 0 = true)))))))))
theorem w2_3_65 : allN (rr2 3 65) 8 = true := alls (by decide +kernel) (alls (by decide +kernel) (alls (by decide +kernel) (alls (by decide +kernel) (alls (by decide +kernel) (alls (by decide +kernel) (alls (by decide +kernel) (alls (by decide +kernel) ((rfl : allN (rr2 3 65) 0 = true)))))))))
theorem w2_3_66 : allN (rr2 3 66) 8 = true := alls (by decide +kernel) (alls (by decide +kernel) (alls (by decide +kernel) (alls (by decide +kernel) (alls (by decide +kernel) (alls (by decide +kernel) (alls (by decide +kernel) (alls (by decide +kernel) ((rfl : allN (rr2 3 66) 0 = true)))))))))
theorem w2_3_67 : allN (rr2 3 67) 8 = true := alls (by decide +kernel) (alls (by decide +kernel) (alls (by decide +kernel) (alls (by decide +kernel) (alls (by decide +kernel) (alls (by decide +kernel) (alls (by decide +kernel) (alls (by decide +kernel) ((rfl : allN (rr2 3 67) 0 = true)))))))))
theorem w2_3_68 : allN (rr2 3 68) 8 = true := alls (by decide +kernel) (alls (by decide +kernel) (alls (by decide +kernel) (alls (by decide +kernel) (alls (by decide +kernel) (alls (by decide +kernel) (alls (by decide +kernel) (alls (by decide +kernel) ((rfl : allN (rr2 3 68) 0 = true)))))))))
theorem w2_3_69 : allN (rr2 3 69) 8 = true := alls (by decide +kernel) (alls (by decide +kernel) (alls (by decide +kernel) (alls (by decide +kernel) (alls (by decide +kernel) (alls (by decide +kernel) (alls (by decide +kernel) (alls (by decide +kernel) ((rfl : allN (rr2 3 69) 0 = true)))))))))
theorem w2_3_70 : allN (rr2 3 70) 8 = true := alls (by decide +kernel) (alls (by decide +kernel) (alls (by decide +kernel) (alls (by decide +kernel) (alls (by decide +kernel) (alls (by decide +kernel) (alls (by decide +kernel) (alls (by decide +kernel) ((rfl : allN (rr2 3 70) 0 = true)))))))))
theorem w2_3_71 : allN (rr2 3 71) 8 = true := alls (by decide +kernel) (alls (by decide +kernel) (alls (by decide +kernel) (alls (by decide +kernel) (alls (by decide +kernel) (alls (by decide +kernel) (alls (by decide +kernel) (alls (by decide +kernel) ((rfl : allN (rr2 3 71) 0 = true)))))))))
theorem w2_3_72 : allN (rr2 3 72) 8 = true := alls (by decide +kernel) (alls (by decide +kernel) (alls (by decide +kernel) (alls (by decide +kernel) (alls (by decide +kernel) (alls (by decide +kernel) (alls (by decide +kernel) (alls (by decide +kernel) ((rfl : allN (rr2 3 72) 0 = true)))))))))
theorem w2_3_73 : allN (rr2 3 73) 8 = true := alls (by decide +kernel) (alls (by decide +kernel) (alls (by decide +kernel) (alls (by decide +kernel) (alls (by decide +kernel) (alls (by decide +kernel) (alls (by decide +kernel) (alls (by decide +kernel) ((rfl : allN (rr2 3 73) 0 = true)))))))))
theorem w2_3_74 : allN (rr2 3 74) 8 = true := alls (by decide +kernel) (alls (by decide +kernel) (alls (by decide +kernel) (alls (by decide +kernel) (alls (by decide +kernel) (alls (by decide +kernel) (alls (by decide +kernel) (alls (by decide +kernel) ((rfl : allN (rr2 3 74) 0 = true)))))))))
theorem w2_3_75 : allN (rr2 3 75) 8 = true := alls (by decide +kernel) (alls (by decide +kernel) (alls (by decide +kernel) (alls (by decide +kernel) (alls (by decide +kernel) (alls (by decide +kernel) (alls (by decide +kernel) (alls (by decide +kernel) ((rfl : allN (rr2 3 75) 0 = true)))))))))
theorem w2_3_76 : allN (rr2 3 76) 8 = true := alls (by decide +kernel) (alls (by decide +kernel) (alls (by decide +kernel) (alls (by decide +kernel) (alls (by decide +kernel) (alls (by decide +kernel) (alls (by decide +kernel) (alls (by decide +kernel) ((rfl : allN (rr2 3 76) 0 = true)))))))))
theorem w2_3_77 : allN (rr2 3 77) 8 = true := alls (by decide +kernel) (alls (by decide +kernel) (alls (by decide +kernel) (alls (by decide +kernel) (alls (by decide +kernel) (alls (by decide +kernel) (alls (by decide +kernel) (alls (by decide +kernel) ((rfl : allN (rr2 3 77) 0 = true)))))))))
theorem w2_3_78 : allN (rr2 3 78) 8 = true := alls (by decide +kernel) (alls (by decide +kernel) (alls (by decide +kernel) (alls (by decide +kernel) (alls (by decide +kernel) (alls (by decide +kernel) (alls (by decide +kernel) (alls (by decide +kernel) ((rfl : allN (rr2 3 78) 0 = true)))))))))
theorem w2_3_79 : allN (rr2 3 79) 8 = true := alls (by decide +kernel) (alls (by decide +kernel) (alls (by decide +kernel) (alls (by decide +kernel) (alls (by decide +kernel) (alls (by decide +kernel) (alls (by decide +kernel) (alls (by decide +kernel) ((rfl : allN (rr2 3 79) 0 = true)))))))))
theorem w2_3_80 : allN (rr2 3 80) 8 = true := alls (by decide +kernel) (alls (by decide +kernel) (alls (by decide +kernel) (alls (by decide +kernel) (alls (by decide +kernel) (alls (by decide +kernel) (alls (by decide +kernel) (alls (by decide +kernel) ((rfl : allN (rr2 3 80) 0 = true)))))))))
theorem w2_3_81 : allN (rr2 3 81) 8 = true := alls (by decide +kernel) (alls (by decide +kernel) (alls (by decide +kernel) (alls (by decide +kernel) (alls (by decide +kernel) (alls (by decide +kernel) (alls (by decide +kernel) (alls (by decide +kernel) ((rfl : allN (rr2 3 81) 0 = true)))))))))
theorem w2_3_82 : allN (rr2 3 82) 8 = true := alls (by decide +kernel) (alls (by decide +kernel) (alls (by decide +kernel) (alls (by decide +kernel) (alls (by decide +kernel) (alls (by decide +kernel) (alls (by decide +kernel) (alls (by decide +kernel) ((rfl : allN (rr2 3 82) 0 = true)))))))))
theorem w2_3_83 : allN (rr2 3 83) 8 = true := alls (by decide +kernel) (alls (by decide +kernel) (alls (by decide +kernel) (alls (by decide +kernel) (alls (by decide +kernel) (alls (by decide +kernel) (alls (by decide +kernel) (alls (by decide +kernel) ((rfl : allN (rr2 3 83) 0 = true)))))))))
theorem w2_3_84 : allN (rr2 3 84) 8 = true := alls (by decide +kernel) (alls (by decide +kernel) (alls (by decide +kernel) (alls (by decide +kernel) (alls (by decide +kernel) (alls (by decide +kernel) (alls (by decide +kernel) (alls (by decide +kernel) ((rfl : allN (rr2 3 84) 0 = true)))))))))
theorem w2_3_85 : allN (rr2 3 85) 8 = true := alls (by decide +kernel) (alls (by decide +kernel) (alls (by decide +kernel) (alls (by decide +kernel) (alls (by decide +kernel) (alls (by decide +kernel) (alls (by decide +kernel) (alls (by decide +kernel) ((rfl : allN (rr2 3 85) 0 = true)))))))))
theorem w2_3_86 : allN (rr2 3 86) 8 = true := alls (by decide +kernel) (alls (by decide +kernel) (alls (by decide +kernel) (alls (by decide +kernel) (alls (by decide +kernel) (alls (by decide +kernel) (alls (by decide +kernel) (alls (by decide +kernel) ((rfl : allN (rr2 3 86) 0 = true)))))))))
theorem w2_3_87 : allN (rr2 3 87) 8 = true := alls (by decide +kernel) (alls (by decide +kernel) (alls (by decide +kernel) (alls (by decide +kernel) (alls (by decide +kernel) (alls (by decide +kernel) (alls (by decide +kernel) (alls (by decide +kernel) ((rfl : allN (rr2 3 87) 0 = true)))))))))
theorem w2_3_88 : allN (rr2 3 88) 8 = true := alls (by decide +kernel) (alls (by decide +kernel) (alls (by decide +kernel) (alls (by decide +kernel) (alls (by decide +kernel) (alls (by decide +kernel) (alls (by decide +kernel) (alls (by decide +kernel) ((rfl : allN (rr2 3 88) 0 = true)))))))))
theorem w2_3_89 : allN (rr2 3 89) 8 = true := alls (by decide +kernel) (alls (by decide +kernel) (alls (by decide +kernel) (alls (by decide +kernel) (alls (by decide +kernel) (alls (by decide +kernel) (alls (by decide +kernel) (alls (by decide +kernel) ((rfl : allN (rr2 3 89) 0 = true)))))))))
theorem w2_3_90 : allN (rr2 3 90) 8 = true := alls (by decide +kernel) (alls (by decide +kernel) (alls (by decide +kernel) (alls (by decide +kernel) (alls (by decide +kernel) (alls (by decide +kernel) (alls (by decide +kernel) (alls (by decide +kernel) ((rfl : allN (rr2 3 90) 0 = true)))))))))
theorem w2_3_91 : allN (rr2 3 91) 8 = true := alls (by decide +kernel) (alls (by decide +kernel) (alls (by decide +kernel) (alls (by decide +kernel) (alls (by decide +kernel) (alls (by decide +kernel) (alls (by decide +kernel) (alls (by decide +kernel) ((rfl : allN (rr2 3 91) 0 = true)))))))))
theorem w2_3_92 : allN (rr2 3 92) 8 = true := alls (by decide +kernel) (alls (by decide +kernel) (alls (by decide +kernel) (alls (by decide +kernel) (alls (by decide +kernel) (alls (by decide +kernel) (alls (by decide +kernel) (alls (by decide +kernel) ((rfl : allN (rr2 3 92) 0 = true)))))))))
theorem w2_3_93 : allN (rr2 3 93) 8 = true := alls (by decide +kernel) (alls (by decide +kernel) (alls (by decide +kernel) (alls (by decide +kernel) (alls (by decide +kernel) (alls (by decide +kernel) (alls (by decide +kernel) (alls (by decide +kernel) ((rfl : allN (rr2 3 93) 0 = true)))))))))
theorem w2_3_94 : allN (rr2 3 94) 8 = true := alls (by decide +kernel) (alls (by decide +kernel) (alls (by decide +kernel) (alls (by decide +kernel) (alls (by decide +kernel) (alls (by decide +kernel) (alls (by decide +kernel) (alls (by decide +kernel) ((rfl : allN (rr2 3 94) 0 = true)))))))))
theorem w2_3_95 : allN (rr2 3 95) 8 = true := alls (by decide +kernel) (alls (by decide +kernel) (alls (by decide +kernel) (alls (by decide +kernel) (alls (by decide +kernel) (alls (by decide +kernel) (alls (by decide +kernel) (alls (by decide +kernel) ((rfl : allN (rr2 3 95) 0 = true)))))))))
theorem w2_3_96 : allN (rr2 3 96) 8 = true := alls (by decide +kernel) (alls (by decide +kernel) (alls (by decide +kernel) (alls (by decide +kernel) (alls (by decide +kernel) (alls (by decide +kernel) (alls (by decide +kernel) (alls (by decide +kernel) ((rfl : allN (rr2 3 96) 0 = true)))))))))
theorem w2_3_97 : allN (rr2 3 97) 8 = true := alls (by decide +kernel) (alls (by decide +kernel) (alls (by decide +kernel) (alls (by decide +kernel) (alls (by decide +kernel) (alls (by decide +kernel) (alls (by decide +kernel) (alls (by decide +kernel) ((rfl : allN (rr2 3 97) 0 = true)))))))))
theorem w2_3_98 : allN (rr2 3 98) 8 = true := alls (by decide +kernel) (alls (by decide +kernel) (alls (by decide +kernel) (alls (by decide +kernel) (alls (by decide +kernel) (alls (by decide +kernel) (alls (by decide +kernel) (alls (by decide +kernel) ((rfl : allN (rr2 3 98) 0 = true)))))))))
theorem w2_3_99 : allN (rr2 3 99) 8 = true := alls (by decide +kernel) (alls (by decide +kernel) (alls (by decide +kernel) (alls (by decide +kernel) (alls (by decide +kernel) (alls (by decide +kernel) (alls (by decide +kernel) (alls (by decide +kernel) ((rfl : allN (rr2 3 99) 0 = true)))))))))
theorem w2_3_100 : allN (rr2 3 100) 8 = true := alls (by decide +kernel) (alls (by decide +kernel) (alls (by decide +kernel) (alls (by decide +kernel) (alls (by decide +kernel) (alls (by decide +kernel) (alls (by decide +kernel) (alls (by decide +kernel) ((rfl : allN (rr2 3 100) 0 = true)))))))))
theorem w2_3_101 : allN (rr2 3 101) 8 = true := alls (by decide +kernel) (alls (by decide +kernel) (alls (by decide +kernel) (alls (by decide +kernel) (alls (by decide +kernel) (alls (by decide +kernel) (alls (by decide +kernel) (alls (by decide +kernel) ((rfl : allN (rr2 3 101) 0 = true)))))))))
theorem w2_3_102 : allN (rr2 3 102) 8 = true := alls (by decide +kernel) (alls (by decide +kernel) (alls (by decide +kernel) (alls (by decide +kernel) (alls (by decide +kernel) (alls (by decide +kernel) (alls (by decide +kernel) (alls (by decide +kernel) ((rfl : allN (rr2 3 102) 0 = true)))))))))
theorem w2_3_103 : allN (rr2 3 103) 8 = true := alls (by decide +kernel) (alls (by decide +kernel) (alls (by decide +kernel) (alls (by decide +kernel) (alls (by decide +kernel) (alls (by decide +kernel) (alls (by decide +kernel) (alls (by decide +kernel) ((rfl : allN (rr2 3 103) 0 = true)))))))))
theorem w2_3_104 : allN (rr2 3 104) 8 = true := alls (by decide +kernel) (alls (by decide +kernel) (alls (by decide +kernel) (alls (by decide +kernel) (alls (by decide +kernel) (alls (by decide +kernel) (alls (by decide +kernel) (alls (by decide +kernel) ((rfl : allN (rr2 3 104) 0 = true)))))))))
theorem w2_3_105 : allN (rr2 3 105) 8 = true := alls (by decide +kernel) (alls (by decide +kernel) (alls (by decide +kernel) (alls (by decide +kernel) (alls (by decide +kernel) (alls (by decide +kernel) (alls (by decide +kernel) (alls (by decide +kernel) ((rfl : allN (rr2 3 105) 0 = true)))))))))
theorem w2_3_106 : allN (rr2 3 106) 8 = true := alls (by decide +kernel) (alls (by decide +kernel) (alls (by decide +kernel) (alls (by decide +kernel) (alls (by decide +kernel) (alls (by decide +kernel) (alls (by decide +kernel) (alls (by decide +kernel) ((rfl : allN (rr2 3 106) 0 = true)))))))))
theorem w2_3_107 : allN (rr2 3 107) 8 = true := alls (by decide +kernel) (alls (by decide +kernel) (alls (by decide +kernel) (alls (by decide +kernel) (alls (by decide +kernel) (alls (by decide +kernel) (alls (by decide +kernel) (alls (by decide +kernel) ((rfl : allN (rr2 3 107) 0 = true)))))))))
theorem w2_3_108 : allN (rr2 3 108) 8 = true := alls (by decide +kernel) (alls (by decide +kernel) (alls (by decide +kernel) (alls (by decide +kernel) (alls (by decide +kernel) (alls (by decide +kernel) (alls (by decide +kernel) (alls (by decide +kernel) ((rfl : allN (rr2 3 108) 0 = true)))))))))
theorem w2_3_109 : allN (rr2 3 109) 8 = true := alls (by decide +kernel) (alls (by decide +kernel) (alls (by decide +kernel) (alls (by decide +kernel) (alls (by decide +kernel) (alls (by decide +kernel) (alls (by decide +kernel) (alls (by decide +kernel) ((rfl : allN (rr2 3 109) 0 = true)))))))))
theorem w2_3_110 : allN (rr2 3 110) 8 = true := alls (by decide +kernel) (alls (by decide +kernel) (alls (by decide +kernel) (alls (by decide +kernel) (alls (by decide +kernel) (alls (by decide +kernel) (alls (by decide +kernel) (alls (by decide +kernel) ((rfl : allN (rr2 3 110) 0 = true)))))))))
theorem w2_3_111 : allN (rr2 3 111) 8 = true := alls (by decide +kernel) (alls (by decide +kernel) (alls (by decide +kernel) (alls (by decide +kernel) (alls (by decide +kernel) (alls (by decide +kernel) (alls (by decide +kernel) (alls (by decide +kernel) ((rfl : allN (rr2 3 111) 0 = true)))))))))
theorem w2_3_112 : allN (rr2 3 112) 8 = true := alls (by decide +kernel) (alls (by decide +kernel) (alls (by decide +kernel) (alls (by decide +kernel) (alls (by decide +kernel) (alls (by decide +kernel) (alls (by decide +kernel) (alls (by decide +kernel) ((rfl : allN (rr2 3 112) 0 = true)))))))))
theorem w2_3_113 : allN (rr2 3 113) 8 = true := alls (by decide +kernel) (alls (by decide +kernel) (alls (by decide +kernel) (alls (by decide +kernel) (alls (by decide +kernel) (alls (by decide +kernel) (alls (by decide +kernel) (alls (by decide +kernel) ((rfl : allN (rr2 3 113) 0 = true)))))))))
theorem w2_3_114 : allN (rr2 3 114) 8 = true := alls (by decide +kernel) (alls (by decide +kernel) (alls (by decide +kernel) (alls (by decide +kernel) (alls (by decide +kernel) (alls (by decide +kernel) (alls (by decide +kernel) (alls (by decide +kernel) ((rfl : allN (rr2 3 114) 0 = true)))))))))
theorem w2_3_115 : allN (rr2 3 115) 8 = true := alls (by decide +kernel) (alls (by decide +kernel) (alls (by decide +kernel) (alls (by decide +kernel) (alls (by decide +kernel) (alls (by decide +kernel) (alls (by decide +kernel) (alls (by decide +kernel) ((rfl : allN (rr2 3 115) 0 = true)))))))))
theorem w2_3_116 : allN (rr2 3 116) 8 = true := alls (by decide +kernel) (alls (by decide +kernel) (alls (by decide +kernel) (alls (by decide +kernel) (alls (by decide +kernel) (alls (by decide +kernel) (alls (by decide +kernel) (alls (by decide +kernel) ((rfl : allN (rr2 3 116) 0 = true)))))))))
theorem w2_3_117 : allN (rr2 3 117) 8 = true := alls (by decide +kernel) (alls (by decide +kernel) (alls (by decide +kernel) (alls (by decide +kernel) (alls (by decide +kernel) (alls (by decide +kernel) (alls (by decide +kernel) (alls (by decide +kernel) ((rfl : allN (rr2 3 117) 0 = true)))))))))
theorem w2_3_118 : allN (rr2 3 118) 8 = true := alls (by decide +kernel) (alls (by decide +kernel) (alls (by decide +kernel) (alls (by decide +kernel) (alls (by decide +kernel) (alls (by decide +kernel) (alls (by decide +kernel) (alls (by decide +kernel) ((rfl : allN (rr2 3 118) 0 = true)))))))))
theorem w2_3_119 : allN (rr2 3 119) 8 = true := alls (by decide +kernel) (alls (by decide +kernel) (alls (by decide +kernel) (alls (by decide +kernel) (alls (by decide +kernel) (alls (by decide +kernel) (alls (by decide +kernel) (alls (by decide +kernel) ((rfl : allN (rr2 3 119) 0 = true)))))))))
theorem w2_3_120 : allN (rr2 3 120) 8 = true := alls (by decide +kernel) (alls (by decide +kernel) (alls (by decide +kernel) (alls (by decide +kernel) (alls (by decide +kernel) (alls (by decide +kernel) (alls (by decide +kernel) (alls (by decide +kernel) ((rfl : allN (rr2 3 120) 0 = true)))))))))
theorem w2_3_121 : allN (rr2 3 121) 8 = true := alls (by decide +kernel) (alls (by decide +kernel) (alls (by decide +kernel) (alls (by decide +kernel) (alls (by decide +kernel) (alls (by decide +kernel) (alls (by decide +kernel) (alls (by decide +kernel) ((rfl : allN (rr2 3 121) 0 = true)))))))))
theorem w2_3_122 : allN (rr2 3 122) 8 = true := alls (by decide +kernel) (alls (by decide +kernel) (alls (by decide +kernel) (alls (by decide +kernel) (alls (by decide +kernel) (alls (by decide +kernel) (alls (by decide +kernel) (alls (by decide +kernel) ((rfl : allN (rr2 3 122) 0 = true)))))))))
theorem w2_3_123 : allN (rr2 3 123) 8 = true := alls (by decide +kernel) (alls (by decide +kernel) (alls (by decide +kernel) (alls (by decide +kernel) (alls (by decide +kernel) (alls (by decide +kernel) (alls (by decide +kernel) (alls (by decide +kernel) ((rfl : allN (rr2 3 123) 0 = true)))))))))
theorem w2_3_124 : allN (rr2 3 124) 8 = true := alls (by decide +kernel) (alls (by decide +kernel) (alls (by decide +kernel) (alls (by decide +kernel) (alls (by decide +kernel) (alls (by decide +kernel) (alls (by decide +kernel) (alls (by decide +kernel) ((rfl : allN (rr2 3 124) 0 = true)))))))))
theorem w2_3 : allN (fun b => allN (rr2 3 b) 8) 125 = true := alls (f := fun b => allN (rr2 3 b) 8) w2_3_124 (alls (f := fun b => allN (rr2 3 b) 8) w2_3_123 (alls (f := fun b => allN (rr2 3 b) 8) w2_3_122 (alls (f := fun b => allN (rr2 3 b) 8) w2_3_121 (alls (f := fun b => allN (rr2 3 b) 8) w2_3_120 (alls (f := fun b => allN (rr2 3 b) 8) w2_3_119 (alls (f := fun b => allN (rr2 3 b) 8) w2_3_118 (alls (f := fun b => allN (rr2 3 b) 8) w2_3_117 (alls (f := fun b => allN (rr2 3 b) 8) w2_3_116 (alls (f := fun b => allN (rr2 3 b) 8) w2_3_115 (alls (f := fun b => allN (rr2 3 b) 8) w2_3_114 (alls (f := fun b => allN (rr2 3 b) 8) w2_3_113 (alls (f := fun b => allN (rr2 3 b) 8) w2_3_112 (alls (f := fun b => allN (rr2 3 b) 8) w2_3_111 (alls (f := fun b => allN (rr2 3 b) 8) w2_3_110 (alls (f := fun b => allN (rr2 3 b) 8) w2_3_109 (alls (f := fun b => allN (rr2 3 b) 8) w2_3_108 (alls (f := fun b => allN (rr2 3 b) 8) w2_3_107 (alls (f := fun b => allN (rr2 3 b) 8) w2_3_106 (alls (f := fun b => allN (rr2 3 b) 8) w2_3_105 (alls (f := fun b => allN (rr2 3 b) 8) w2_3_104 (alls (f := fun b => allN (rr2 3 b) 8) w2_3_103 (alls (f := fun b => allN (rr2 3 b) 8) w2_3_102 (alls (f := fun b => allN (rr2 3 b) 8) w2_3_101 (alls (f := fun b => allN (rr2 3 b) 8) w2_3_100 (alls (f := fun b => allN (rr2 3 b) 8) w2_3_99 (alls (f := fun b => allN (rr2 3 b) 8) w2_3_98 (alls (f := fun b => allN (rr2 3 b) 8) w2_3_97 (alls (f := fun b => allN (rr2 3 b) 8) w2_3_96 (alls (f := fun b => allN (rr2 3 b) 8) w2_3_95 (alls (f := fun b => allN (rr2 3 b) 8) w2_3_94 (alls (f := fun b => allN (rr2 3 b) 8) w2_3_93 (alls (f := fun b => allN (rr2 3 b) 8) w2_3_92 (alls (f := fun b => allN (rr2 3 b) 8) w2_3_91 (alls (f := fun b => allN (rr2 3 b) 8) w2_3_90 (alls (f := fun b => allN (rr2 3 b) 8) w2_3_89 (alls (f := fun b => allN (rr2 3 b) 8) w2_3_88 (alls (f := fun b => allN (rr2 3 b) 8) w2_3_87 (alls (f := fun b => allN (rr2 3 b) 8) w2_3_86 (alls (f := fun b => allN (rr2 3 b) 8) w2_3_85 (alls (f := fun b => allN (rr2 3 b) 8) w2_3_84 (alls (f := fun b => allN (rr2 3 b) 8) w2_3_83 (alls (f := fun b => allN (rr2 3 b) 8) w2_3_82 (alls (f := fun b => allN (rr2 3 b) 8) w2_3_81 (alls (f := fun b => allN (rr2 3 b) 8) w2_3_80 (alls (f := fun b => allN (rr2 3 b) 8) w2_3_79 (alls (f := fun b => allN (rr2 3 b) 8) w2_3_78 (alls (f := fun b => allN (rr2 3 b) 8) w2_3_77 (alls (f := fun b => allN (rr2 3 b) 8) w2_3_76 (alls (f := fun b => allN (rr2 3 b) 8) w2_3_75 (alls (f := fun b => allN (rr2 3 b) 8) w2_3_74 (alls (f := fun b => allN (rr2 3 b) 8) w2_3_73 (alls (f := fun b => allN (rr2 3 b) 8) w2_3_72 (alls (f := fun b => allN (rr2 3 b) 8) w2_3_71 (alls (f := fun b => allN (rr2 3 b) 8) w2_3_70 (alls (f := fun b => allN (rr2 3 b) 8) w2_3_69 (alls (f := fun b => allN (rr2 3 b) 8) w2_3_68 (alls (f := fun b => allN (rr2 3 b) 8) w2_3_67 (alls (f := fun b => allN (rr2 3 b) 8) w2_3_66 (alls (f := fun b => allN (rr2 3 b) 8) w2_3_65 (alls (f := fun b => allN (rr2 3 b) 8) w2_3_64 (alls (f := fun b => allN (rr2 3 b) 8) w2_3_63 (alls (f := fun b => allN (rr2 3 b) 8) w2_3_62 (alls (f := fun b => allN (rr2 3 b) 8) w2_3_61 (alls (f := fun b => allN (rr2 3 b) 8) w2_3_60 (alls (f := fun b => allN (rr2 3 b) 8) w2_3_59 (alls (f := fun b => allN (rr2 3 b) 8) w2_3_58 (alls (f := fun b => allN (rr2 3 b) 8) w2_3_57 (alls (f := fun b => allN (rr2 3 b) 8) w2_3_56 (alls (f := fun b => allN (rr2 3 b) 8) w2_3_55 (alls (f := fun b => allN (rr2 3 b) 8) w2_3_54 (alls (f := fun b => allN (rr2 3 b) 8) w2_3_53 (alls (f := fun b => allN (rr2 3 b) 8) w2_3_52 (alls (f := fun b => allN (rr2 3 b) 8) w2_3_51 (alls (f := fun b => allN (rr2 3 b) 8) w2_3_50 (alls (f := fun b => allN (rr2 3 b) 8) w2_3_49 (alls (f := fun b => allN (rr2 3 b) 8) w2_3_48 (alls (f := fun b => allN (rr2 3 b) 8) w2_3_47 (alls (f := fun b => allN (rr2 3 b) 8) w2_3_46 (alls (f := fun b => allN (rr2 3 b) 8) w2_3_45 (alls (f := fun b => allN (rr2 3 b) 8) w2_3_44 (alls (f := fun b => allN (rr2 3 b) 8) w2_3_43 (alls (f := fun b => allN (rr2 3 b) 8) w2_3_42 (alls (f := fun b => allN (rr2 3 b) 8) w2_3_41 (alls (f := fun b => allN (rr2 3 b) 8) w2_3_40 (alls (f := fun b => allN (rr2 3 b) 8) w2_3_39 (alls (f := fun b => allN (rr2 3 b) 8) w2_3_38 (alls (f := fun b => allN (rr2 3 b) 8) w2_3_37 (alls (f := fun b => allN (rr2 3 b) 8) w2_3_36 (alls (f := fun b => allN (rr2 3 b) 8) w2_3_35 (alls (f := fun b => allN (rr2 3 b) 8) w2_3_34 (alls (f := fun b => allN (rr2 3 b) 8) w2_3_33 (alls (f := fun b => allN (rr2 3 b) 8) w2_3_32 (alls (f := fun b => allN (rr2 3 b) 8) w2_3_31 (alls (f := fun b => allN (rr2 3 b) 8) w2_3_30 (alls (f := fun b => allN (rr2 3 b) 8) w2_3_29 (alls (f := fun b => allN (rr2 3 b) 8) w2_3_28 (alls (f := fun b => allN (rr2 3 b) 8) w2_3_27 (alls (f := fun b => allN (rr2 3 b) 8) w2_3_26 (alls (f := fun b => allN (rr2 3 b) 8) w2_3_25 (alls (f := fun b => allN (rr2 3 b) 8) w2_3_24 (alls (f := fun b => allN (rr2 3 b) 8) w2_3_23 (alls (f := fun b => allN (rr2 3 b) 8) w2_3_22 (alls (f := fun b => allN (rr2 3 b) 8) w2_3_21 (alls (f := fun b => allN (rr2 3 b) 8) w2_3_20 (alls (f := fun b => allN (rr2 3 b) 8) w2_3_19 (alls (f := fun b => allN (rr2 3 b) 8) w2_3_18 (alls (f := fun b => allN (rr2 3 b) 8) w2_3_17 (alls (f := fun b => allN (rr2 3 b) 8) w2_3_16 (alls (f := fun b => allN (rr2 3 b) 8) w2_3_15 (alls (f := fun b => allN (rr2 3 b) 8) w2_3_14 (alls (f := fun b => allN (rr2 3 b) 8) w2_3_13 (alls (f := fun b => allN (rr2 3 b) 8) w2_3_12 (alls (f := fun b => allN (rr2 3 b) 8) w2_3_11 (alls (f := fun b => allN (rr2 3 b) 8) w2_3_10 (alls (f := fun b => allN (rr2 3 b) 8) w2_3_9 (alls (f := fun b => allN (rr2 3 b) 8) w2_3_8 (alls (f := fun b => allN (rr2 3 b) 8) w2_3_7 (alls (f := fun b => allN (rr2 3 b) 8) w2_3_6 (alls (f := fun b => allN (rr2 3 b) 8) w2_3_5 (alls (f := fun b => allN (rr2 3 b) 8) w2_3_4 (alls (f := fun b => allN (rr2 3 b) 8) w2_3_3 (alls (f := fun b => allN (rr2 3 b) 8) w2_3_2 (alls (f := fun b => allN (rr2 3 b) 8) w2_3_1 (alls (f := fun b => allN (rr2 3 b) 8) w2_3_0 ((rfl : allN (fun b => allN (rr2 3 b) 8) 0 = true))))))))))))))))))))))))))))))))))))))))))))))))))))))))))))))))))))))))))))))))))))))))))))))))))))))))))))))))))))))))))))))
theorem prs1 : ∀ {a b : Nat}, a < 4 → b < fM a → rr1 a b = true
  | 0, b, _, h => allN_ok w1_0 b h
  | 1, b, _, h => allN_ok w1_1 b h
  | 2, b, _, h => allN_ok w1_2 b h
  | 3, b, _, h => allN_ok w1_3 b h
  | a + 4, _, h, _ => absurd h (by omega)
theorem prs2 : ∀ {a b c : Nat}, a < 4 → b < fM a → c < fQ a → rr2 a b c = true
  | 0, b, c, _, h, k => allN_ok (allN_ok w2_0 b h) c k
  | 1, b, c, _, h, k => allN_ok (allN_ok w2_1 b h) c k
  | 2, b, c, _, h, k => allN_ok (allN_ok w2_2 b h) c k
  | 3, b, c, _, h, k => allN_ok (allN_ok w2_3 b h) c k
  | a + 4, _, _, h, _, _ => absurd h (by omega)
theorem fM_pos : ∀ a, 0 < fM a
  | 0 => Nat.one_pos
  | 1 => (by decide : 0 < 3)
  | 2 => (by decide : 0 < 16)
  | _ + 3 => (by decide : 0 < 125)
theorem fQ_pos : ∀ a, 0 < fQ a
  | 0 => Nat.one_pos
  | 1 => (by decide : 0 < 2)
  | 2 => (by decide : 0 < 4)
  | _ + 3 => (by decide : 0 < 8)
end Mine

open PySem PySem.W PyProof.Rows PySem.Calls
namespace Mine
set_option autoImplicit false
set_option backward.match.sparseCases false
set_option linter.unusedVariables false
set_option maxRecDepth 100000
set_option maxHeartbeats 4000000
/-- what is told of the script -/
noncomputable def toldOf : List Int → List MV
  | [] => []
  | [x] => [.ab 4 (x.natAbs % 4)]
  | [x, y] => [.ab 4 (x.natAbs % 4), .ab (fM (x.natAbs % 4)) (y.natAbs % fM (x.natAbs % 4))]
  | x :: y :: z :: r => scr (fM (x.natAbs % 4)) (fQ (x.natAbs % 4)) (x.natAbs % 4) (y.natAbs % fM (x.natAbs % 4)) (z.natAbs % fQ (x.natAbs % 4)) r.length
theorem told_run (is : List Int) (h : is.length ≤ 63) : tlQ (hdQ (toldOf is)) = true := by
  match is, h with
  | [], _ => exact q0
  | [x], _ => exact allN_ok q1 _ (Nat.mod_lt _ (by decide))
  | [x, y], _ => exact prs1 (Nat.mod_lt _ (by decide)) (Nat.mod_lt _ (fM_pos _))
  | x :: y :: z :: r, h =>
    show tlQ (hdQ (scr _ _ _ _ _ r.length)) = true
    rw [sameQ _ _ _ _ _ _ (by simp at h; omega)]
    exact prs2 (Nat.mod_lt _ (by decide)) (Nat.mod_lt _ (fM_pos _)) (Nat.mod_lt _ (fQ_pos _))
theorem anys {G : St} {N : Led} {ρ : Rho} : ∀ {vs : List Value} {is : List Int}, IntsAre vs is → RVs G N ρ vs (List.replicate is.length .any)
  | _, _, .nil => .nil
  | _, _, .cons n t h => .cons (.any _) (anys h)
theorem told_rvs {G : St} {N : Led} {ρ : Rho} {vs : List Value} {is : List Int} (h : IntsAre vs is) : RVs G N ρ vs (toldOf is) := by
  cases h with
  | nil => exact .nil
  | cons n t h =>
    cases h with
    | nil => exact .cons (.ab rfl) .nil
    | cons n' t' h =>
      cases h with
      | nil => exact .cons (.ab rfl) (.cons (.ab rfl) .nil)
      | cons n'' t'' h => exact .cons (.ab rfl) (.cons (.ab rfl) (.cons (.ab rfl) (anys h)))
end Mine

open PySem PySem.W PyProof.Rows PySem.Calls
namespace Mine
set_option autoImplicit false
set_option backward.match.sparseCases false
set_option linter.unusedVariables false
set_option maxRecDepth 100000
noncomputable def lawNames : Names := dns_law.dropLast.dropLast
theorem gl_of {G : St} {x : Str} {mv : MV} (h : gB G.K G.FA G.CA x mv = true) : GlbOk G x mv := gB_ok h
theorem nd4 (L : Nat) (h : 448 < L) : [L + 1 + 1 + 1, L + 1 + 1, L + 1, 441, 448].Nodup := by simp; omega
theorem ap3 (L : Nat) : [((L + 1, L + 1) : Addr × Addr), (L + 1 + 1, L + 1 + 1), (L + 1 + 1 + 1, L + 1 + 1 + 1)].Pairwise Off2 := by
  simp only [List.pairwise_cons, List.mem_cons, List.not_mem_nil, Off2, forall_eq_or_imp, forall_eq, false_imp_iff, implies_true, and_true, List.Pairwise.nil]
  refine ⟨⟨⟨?_, ?_, ?_, ?_⟩, ?_, ?_, ?_, ?_⟩, ?_, ?_, ?_, ?_⟩ <;> exact fun (e : (_ : Nat) = _) => by omega
section
variable {prog : Program} {w : World} {base : Heap} {L fa a : Addr} {cd : Value} {name : Str} {scope : Scope} {m : Str → Option Value} {vs : List Value} {is : List Int} {N : Led} {ρ : Rho}
theorem law_slots (hN : NestOk (GG prog w [(a, vs)]) (envOfC name scope L fa cd) dns_law 0 1 []) (hn : scope.names = lawNames) (hk : scope.kind = .function) (hI : IntsAre vs is) (hm : m "script" = some (.ref a)) (hρ : ρ.l = [(L + 1, L + 1), (L + 1 + 1, L + 1 + 1), (L + 1 + 1 + 1, L + 1 + 1 + 1)]) :
    Slots (GG prog w [(a, vs)]) L (envOfC name scope L fa cd) dns_law m N ρ (lawL (toldOf is)) := by
  have kd : ∀ x, (envOfC name scope L fa cd).kindOf x = lawNames.lookup x := fun x => by show scope.names.lookup x = _; rw [hn]
  have cl : ∀ x, (envOfC name scope L fa cd).cells.lookup x = (cellsFrom (L + 1) lawNames []).lookup x := fun x => by show (cellsFrom (L + 1) scope.names []).lookup x = _; rw [hn]
  refine ⟨rfl, ndB2_ok (by decide +kernel), fun i hi => ?_, fun i x e => ?_⟩
  · have := List.all_eq_true.mp (show dbgB dns_law = true by decide +kernel) _ (List.getElem_mem hi)
    rw [at_of (List.getElem?_eq_getElem hi)]
    simpa using this
  · match i, e with
    | 0, e => cases e; exact .locS rfl ((kd _).trans (by kernel_rfl)) hm (.bl (List.mem_singleton.mpr rfl) (told_rvs hI))
    | 1, e => cases e; exact .locN rfl ((kd _).trans (by kernel_rfl))
    | 2, e => cases e; exact .cel (c := L + 1) ((kd _).trans (by kernel_rfl)) ((cl _).trans (by kernel_rfl)) (by rw [hρ]; rfl)
    | 3, e => cases e; exact .cel (c := L + 1 + 1) ((kd _).trans (by kernel_rfl)) ((cl _).trans (by kernel_rfl)) (by rw [hρ]; rfl)
    | 4, e => cases e; exact .locN rfl ((kd _).trans (by kernel_rfl))
    | 5, e => cases e; exact .cel (c := L + 1 + 1 + 1) ((kd _).trans (by kernel_rfl)) ((cl _).trans (by kernel_rfl)) (by rw [hρ]; rfl)
    | 6, e => cases e; exact .locN rfl ((kd _).trans (by kernel_rfl))
    | 7, e => cases e; exact .locN rfl ((kd _).trans (by kernel_rfl))
    | 8, e => cases e; exact .locN rfl ((kd _).trans (by kernel_rfl))
    | 9, e => cases e; exact .locN rfl ((kd _).trans (by kernel_rfl))
    | 10, e => cases e; exact .locN rfl ((kd _).trans (by kernel_rfl))
    | 11, e => cases e; exact .locN rfl ((kd _).trans (by kernel_rfl))
    | 12, e => cases e; exact .locN rfl ((kd _).trans (by kernel_rfl))
    | 13, e => cases e; exact .locN rfl ((kd _).trans (by kernel_rfl))
    | 14, e => cases e; exact .locN rfl ((kd _).trans (by kernel_rfl))
    | 15, e => cases e; exact .glb ((kd _).trans (by kernel_rfl)) (gl_of (by kernel_rfl))
    | 16, e => cases e; exact .glb ((kd _).trans (by kernel_rfl)) (gl_of (by kernel_rfl))
    | 17, e => cases e; exact .glb ((kd _).trans (by kernel_rfl)) (gl_of (by kernel_rfl))
    | 18, e => cases e; exact .glb ((kd _).trans (by kernel_rfl)) (gl_of (by kernel_rfl))
    | 19, e => cases e; exact .glb ((kd _).trans (by kernel_rfl)) (gl_of (by kernel_rfl))
    | 20, e => cases e; exact .glb ((kd _).trans (by kernel_rfl)) (gl_of (by kernel_rfl))
    | 21, e => cases e; exact .glb ((kd _).trans (by kernel_rfl)) (gl_of (by kernel_rfl))
    | 22, e => cases e; exact .nid (by kernel_rfl)
    | 23, e => cases e; exact .nst hN
    | i + 24, e => cases e
theorem law_first : db_law = bs1 :: bs2 :: db_law.drop 2 := by kernel_rfl
theorem law_run {s : Shared} {o1 o2 o3 : Obj} {p : Program} {loose : List Str} {mean mg mb} {body : List Stmt} (hn : scope.names = lawNames) (hk : scope.kind = .function) (hb : body = S.ers dns_law db_law)
    (d1 : o1.data = .cell none) (d2 : o2.data = .cell none) (d3 : o3.data = .cell none) (X : (KK w.params).In base) (T : Top p loose mean mg mb base) (F : Fr base L s.heap m)
    (W : News base L s.heap [(L + 1 + 1 + 1, o1), (L + 1 + 1, o2), (L + 1, o3), (441, tabObj #[]), (448, tabObj #[])]) (hl : base.IsList a vs.toArray) (hI : IntsAre vs is) (hlen : is.length ≤ 63) (hc : CodeHd base 445 441) (hc2 : CodeHd base 450 448) (lt : 448 < L) (hname : name = "law") (hcd : cd = .ref 450)
    (hm : m "script" = some (.ref a)) (Q : Flow → Shared → Prop) (E : Value → Shared → Prop)
    (q : ∀ h' tk N' m', Fr base L h' m' → News base L h' N' → (∃ ps, ((441 : Addr), tabObj ps) ∈ N') → (∃ ps, ((448 : Addr), tabObj ps) ∈ N') → Q (.ret (.bool true)) { s with heap := h', toks := tk }) :
    wpAny (model prog w) (callerA.deeper (envOfC name scope L fa cd)) (execs body (envOfC name scope L fa cd)) Q E s := by
  obtain ⟨sl1, σ1, sl2, σ2, sl3, σ3, e1, e2, e3⟩ := evals (told_run is hlen)
  have Z := static1 prog w [(a, vs)]
  have B : Below callerA base [] base := below_caller base
  have htabs : ∀ t ∈ (GG prog w [(a, vs)]).TB, CodeHd base t.c t.P := fun t ht => by
    rcases List.mem_cons.mp ht with h | ht
    · rw [h]; exact hc
    · rw [List.mem_singleton.mp ht]; exact hc2
  have H : EnvOk (GG prog w [(a, vs)]) (callerA.deeper (envOfC name scope L fa cd)) (envOfC name scope L fa cd) base L 440 :=
    { kind := hk, gl := rfl, bi := rfl, fr := rfl, X := X, T := ⟨_, _, _, _, _, T⟩, hd := rfl, B := ⟨callerA, base, [], _, B, Around.frames_deeper B.stack, rfl, hk⟩,
      tabs := htabs, bls := fun p hp => by rw [List.mem_singleton.mp hp]; exact hl,
      dep := by show 302 + 440 < recursionLimit; decide, uni := by show 4 + _ + 8 * 440 + 100 < cLine; decide }
  have I : Inv (GG prog w [(a, vs)]) base L m [(L + 1 + 1 + 1, o1), (L + 1 + 1, o2), (L + 1, o3), (441, tabObj #[]), (448, tabObj #[])] ⟨[(L + 1, L + 1), (L + 1 + 1, L + 1 + 1), (L + 1 + 1 + 1, L + 1 + 1 + 1)], [], [], []⟩ lawS s.heap (s.toks + 1) :=
    { F := F, W := W, nd := nd4 L lt, len := rfl, ap := ap3 L,
      so := fun i mo e => by
        match i, e with
        | 0, e => cases e; exact ⟨_, rfl, .cell (by simp) d3 .none⟩
        | 1, e => cases e; exact ⟨_, rfl, .cell (by simp) d2 .none⟩
        | 2, e => cases e; exact ⟨_, rfl, .cell (by simp) d1 .none⟩
        | i + 3, e => cases e
      tb := fun t ht => by
        rcases List.mem_cons.mp ht with h | ht
        · rw [h]; exact ⟨_, by simp, .inl rfl⟩
        · rw [List.mem_singleton.mp ht]; exact ⟨_, by simp, .inl rfl⟩
      bk := ⟨Nat.succ_pos _, (fun t h => nomatch h), (fun t h => nomatch h), (fun t h => nomatch h)⟩
      fz := fun a h => nomatch h }
  have hN : NestOk (GG prog w [(a, vs)]) (envOfC name scope L fa cd) dns_law 0 1 [] := by
    subst hname hcd
    exact ⟨fun _ => ⟨_, _, L, fa, ⟨450, 448, ⟨331, 68, 331, 83⟩, "law.<locals>.<lambda>"⟩, _, rfl, List.mem_cons_of_mem _ (List.mem_singleton.mpr rfl), by kernel_rfl, by kernel_rfl, by kernel_rfl, by kernel_rfl, by kernel_rfl, by kernel_rfl⟩, fun h => absurd h (by decide +kernel)⟩
  have S := law_slots (prog := prog) (w := w) (L := L) (name := name) (fa := fa) (cd := cd) (N := [(L + 1 + 1 + 1, o1), (L + 1 + 1, o2), (L + 1, o3), (441, tabObj #[]), (448, tabObj #[])]) (ρ := ⟨[(L + 1, L + 1), (L + 1 + 1, L + 1 + 1), (L + 1 + 1 + 1, L + 1 + 1 + 1)], [], [], []⟩) hN hn hk hI hm rfl
  have R := body_ok (s := s) (n := 436) Z (mmR_ok Z) H rfl (by show scope.names.lookup _ = _; rw [hn]; kernel_rfl) S I e1 e2 e3
  rw [hb, law_first]
  refine R Q E fun f h' tk N' ρ' m' I' x' S' r' => ?_
  obtain ⟨u, rfl, ru⟩ := (show ∃ u, f = .ret u ∧ RV _ N' ρ' u (.bool true) from r')
  cases ru
  obtain ⟨ps, hps, _⟩ := I'.tb ⟨445, 441, ⟨305, 66, 305, 81⟩, "_law_edges.<locals>.<lambda>"⟩ (List.mem_cons_self ..)
  obtain ⟨ps2, hps2, _⟩ := I'.tb ⟨450, 448, ⟨331, 68, 331, 83⟩, "law.<locals>.<lambda>"⟩ (List.mem_cons_of_mem _ (List.mem_singleton.mpr rfl))
  exact q h' tk N' m' I'.F I'.W ⟨ps, hps⟩ ⟨ps2, hps2⟩
end
end Mine

open PySem PySem.W PyProof.Rows PySem.Calls
set_option maxRecDepth 100000 in
set_option maxHeartbeats 8000000 in
theorem PySem.Challenge.cw_xm0955_04_holds : PySem.Challenge.rw_xm0955_04.Holds := by
  w_on
  refine holds_law Mine.said0 fun said => ?_
  refine holds_open (q := Mine.vw) (loose := Mine.lo) (Xt := Mine.Xt0) (XP := XL Mine.vw []) (Yf := Hook.obs (kmHook Mine.KK Mine.kas Mine.kpf [441, 448])) (Ya := Hook.val (kmHook Mine.KK Mine.kas Mine.kpf [441, 448])) (YP := Hook.says (kmHook Mine.KK Mine.kas Mine.kpf [441, 448])) (N := 5948) Mine.left0 (Hook.of (kmHook Mine.KK Mine.kas Mine.kpf [441, 448])) (Hook.keeps (kmHook Mine.KK Mine.kas Mine.kpf [441, 448])) (fun s e => xl_of s (Bool.and_eq_true_iff.mp e).1) XL.keeps (by rfl) (by rfl) (by rfl) (fun s e => recFacts_of (Bool.and_eq_true_iff.mp e).2) (by rfl) (by assumption) (by decide +kernel) ⟨rfl, rfl, rfl, rfl, rfl, by decide +kernel⟩ ?hw ?hc
  case hw => w_witness2
  k_go0
  refine Mine.law_run (by kernel_rfl) (by kernel_rfl) (by kernel_rfl) ?_ ?_ ?_ (by assumption) (by assumption) (by assumption) (by assumption) (by assumption) (by assumption) (by omega) (by assumption) (by assumption) (And.right (a := 441 < _) (by assumption)) (by kernel_rfl) (by rfl) (by kernel_rfl) _ _ ?_
  · exact Eq.trans (by assumption) (by kernel_rfl)
  · exact Eq.trans (by assumption) (by kernel_rfl)
  · exact Eq.trans (by assumption) (by kernel_rfl)
  · intro h' tk N' m' F' W' hps hps2
    obtain ⟨ps, hps⟩ := hps
    obtain ⟨ps2, hps2⟩ := hps2
    refine ⟨goodW_bool (m := m') F' (by assumption) (raisesW_false ?_) ?_, GrownAt.of W' hps, GrownAt.of W' hps2, True.intro⟩
    · wrow_none_raised
    · kc_post

