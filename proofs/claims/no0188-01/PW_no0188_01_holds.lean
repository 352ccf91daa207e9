import PyProof.Rows.All
import Wide.All
import OpenK.AllK
import Wide.FinOn
import PySem.Challenge.RW_no0188_01
set_option Elab.async false
set_option compiler.extract_closed false
set_option linter.all false
local macro_rules
  | `(tactic| omega) => `(tactic| lia)
set_option tactic.hygienic false
set_option genSizeOf false
set_option genInjectivity false
section
open PySem PySem.W
namespace Mine.Internal

/- a value seen as a tree: tuples are trees, lists, dicts and instances are numbers -/
inductive V where
  | none | bool (b : Bool) | int (i : Int) | str (s : Str) | tup (l : List V) | obj (i : Nat)
  | rng (a b : Int)

/- what is called by a plain name -/
inductive Fn where
  | usr (k : Nat) | cls (k : Nat)
  | len | sum | min | range | list | tuple | sorted | isInt | isStr | isTuple | isBool
  deriving DecidableEq

mutual
inductive IE where
  | val (v : V)
  | loc (i : Nat)
  | neg (e : IE) | not (e : IE)
  | bin (op : Operator) (a b : IE)
  | cmp (op : CmpOp) (a b : IE)
  | bop (op : BoolOp) (l : IEs)
  | ite (c a b : IE)
  | tup (l : IEs) | list (l : IEs) | dict (l : IEs)
  | attr (e : IE) (n : Nat)
  | sub (e i : IE)
  | slice (e u : IE)
  | call (f : Fn) (l : IEs)
  | base (k : Nat) (l : IEs)
  | mcall (o : IE) (n : Nat) (l : IEs)
  | comp (elt : IE) (x : Nat) (src : IE) (conds : IEs) (m : List (Nat × Nat))
  | cdict (l : List (Str × Str))
inductive IEs where
  | nil | cons (e : IE) (l : IEs)
end

mutual
inductive IS where
  | expr (e : IE)
  | assign (i : Nat) (e : IE)
  | assignC (i : Nat) (e : IE)
  | setattr (o : IE) (n : Nat) (e : IE)
  | setsub (o i e : IE)
  | aug (i : Nat) (op : Operator) (e : IE)
  | ite (c : IE) (t e : ISs)
  | while (c : IE) (b : ISs)
  | for (i : Nat) (src : IE) (b : ISs)
  | ret (e : IE)
  | raise (e : IE)
  | try1 (o : IE) (n : Nat) (l : IEs) (x : Nat) (a : Nat) (y : Nat)
  | dead
inductive ISs where
  | nil | cons (s : IS) (l : ISs)
end

inductive GV where
  | val (v : V) | fn (f : Fn) | cls (k : Nat)

noncomputable def idxOf (x : Str) : List (Str × NameKind) → Nat → Option (Nat × NameKind)
  | [], _ => none
  | (y, k) :: r, n => if y = x then some (n, k) else idxOf x r (n + 1)

structure CT where
  g : List (Str × GV)          -- globals
  at_ : List Str               -- attribute names

noncomputable def attrIx (T : List Str) (x : Str) : Nat → Option Nat := go T
where go : List Str → Nat → Option Nat
  | [], _ => none
  | y :: r, n => if y = x then some n else go r (n + 1)

noncomputable def isLoc : NameKind → Bool
  | .local | .cell | .free => true
  | _ => false

/- a comprehension's own scope: its cells are those of the frame around -/
noncomputable def ownScope (sc cs : Scope) : Scope :=
  { cs with names := cs.names.map fun (n, k) => if k == .free && sc.kind == .function && sc.names.lookup n == some .cell then (n, .cell) else (n, k) }

/- what a comprehension's scope must be for us -/
noncomputable def scopeOk (sc cs : Scope) : Bool :=
  cs.kind == .function && decide (cs.names.map (·.1)).Nodup && cs.names.all fun (y, k) => (k != .cell) && ((k != .free) || (match sc.names.lookup y with | some .cell => true | some .free => true | _ => false))

/- which of its names stand for which names around -/
noncomputable def linkOf (sc : Scope) : List (Str × NameKind) → Nat → List (Nat × Nat)
  | [], _ => []
  | (y, k) :: r, n => if k == .free then (match idxOf y sc.names 0 with | some (j, _) => (n, j) :: linkOf sc r (n + 1) | none => linkOf sc r (n + 1)) else linkOf sc r (n + 1)

noncomputable def constV : Const → Option V
  | .none => some .none
  | .bool b => some (.bool b)
  | .int i => some (.int i)
  | .str s => some (.str s)
  | _ => none

/- no super()-/
noncomputable def noSup (e : Expr) : Bool := if h : e.ctorIdx = 16 then Expr.Call.elim e h fun f ζ ζ ζ => f.ctorIdx != 23 else true

noncomputable def globOf (T : CT) (x : Str) : Option GV := T.g.lookup x

noncomputable def cStr : Const → Option Str
  | .str s => some s
  | _ => none
noncomputable def litS (e : Expr) : Option Str := if h : e.ctorIdx = 19 then Expr.Constant.elim e h fun c ζ ζ => cStr c else none
/- a display of texts by texts -/
noncomputable def constPairs : List (Option Expr) → List Expr → Option (List (Str × Str))
  | [], vs => if vs.isEmpty then some [] else none
  | a :: ks, vs => a.bind fun a => (litS a).bind fun k => match vs with
    | [] => none
    | v :: vs => (litS v).bind fun s => (constPairs ks vs).map fun l => (k, s) :: l

noncomputable def noComp (e : Expr) : Bool := e.ctorIdx != 8 && e.ctorIdx != 9 && e.ctorIdx != 10

/- names of attributes: fields, then methods -/
noncomputable def atNames : List Str := ((["texts", "atom_numbers", "functors", "functor_numbers", "arity", "codes", "rows", "chains", "known", "next_label",
  "functor", "kind", "entry", "terms", "first_key", "last_key", "library", "helper", "pending", "records", "next_record", "generation",
  "symbols", "table", "code", "shapes", "procs", "waiting", "key", "instrs", "used", "ball", "what",
  "append", "get", "startswith",
  "atom", "text", "func", "name", "chain_rows", "finish", "switch", "enter_fixed", "link", "link_procedure", "define", "link_pending", "missing", "lookup",
  "modify_error", "is_fixed", "writable", "user_functors", "is_users", "fresh_label", "chain", "matching_places", "variable_places"] : List String).map Str.ofString)

/- plain functions and methods, each by number -/
noncomputable def fnNames : List Str := ((["fixed_atoms", "fixed_functors", "indicator", "system_error", "formal_of", "permission_error",
  "matching", "all_variable", "small_block", "chain_block", "index_block", "boot_code", "shapes", "is_whole", "is_pair", "is_register", "is_constant", "is_functor",
  "is_target", "is_key", "is_table", "is_operand", "check_row", "is_label_row", "label_addresses", "resolve_label", "resolve_table", "resolve_instruction", "assemble",
  "_law_pick", "_law_led", "law"] : List String).map Str.ofString)
noncomputable def clsNames : List Str := ((["Symbols", "BlockBuilder", "Procedure", "ClauseStore", "Linkage", "ClauseCode", "PrologError"] : List String).map Str.ofString)

noncomputable def numbered (f : Nat → GV) : List Str → Nat → List (Str × GV)
  | [], _ => []
  | x :: r, n => (x, f n) :: numbered f r (n + 1)

noncomputable def theCT : CT where
  at_ := atNames
  g := numbered (fun k => .fn (.usr k)) fnNames 0 ++ numbered .cls clsNames 0 ++
    ([("len", .fn .len), ("sum", .fn .sum), ("min", .fn .min), ("range", .fn .range), ("list", .fn .list), ("tuple", .fn .tuple), ("sorted", .fn .sorted), ("isinstance", .fn .isInt),
     ("A_SYSTEM", .val (.int 25)), ("F_COMMA", .val (.int 1)), ("F_SEMI", .val (.int 2)), ("F_ARROW", .val (.int 3)), ("F_NOT", .val (.int 4)), ("F_NECK", .val (.int 5)),
     ("F_SLASH", .val (.int 15)), ("F_ERROR", .val (.int 16)), ("F_CATCH", .val (.int 18)), ("F_CUT", .val (.int 20)), ("F_CALL1", .val (.int 24)),
     ("VAR_KEY", .val (.tup [.str "var"])), ("FAIL_LABEL", .val (.int (-1))), ("CON", .val (.int 4)), ("INT", .val (.int 5)), ("FAIL_ADDRESS", .val (.int 2)), ("CATCH_ENTRY", .val (.int 3)),
     ("META_ENTRY", .val (.int 13)), ("META_COUNT", .val (.int 8))] : List (String × GV)).map (fun p => (Str.ofString p.1, p.2))
end Mine.Internal
end
section
open PySem PySem.W
namespace Mine.Internal

inductive O where
  | list (l : List V) | dict (es : List (V × V)) | inst (c : Nat) (fs : List (Nat × V)) | exc (b : V) | exd
  deriving Inhabited

/- the objects, each with the number of its changes -/
structure St where
  objs : List (O × Nat)

namespace St
noncomputable def len (σ : St) : Nat := σ.objs.length
noncomputable def get (σ : St) (i : Nat) : Option O := (σ.objs[i]?).map (·.1)
noncomputable def ver (σ : St) (i : Nat) : Nat := ((σ.objs[i]?).map (·.2)).getD 0
noncomputable def add (σ : St) (o : O) : St := ⟨σ.objs ++ [(o, 0)]⟩
noncomputable def put (σ : St) (i : Nat) (o : O) : St := ⟨σ.objs.modify i fun p => (o, p.2 + 1)⟩
theorem len_add (σ : St) (o : O) : (σ.add o).len = σ.len + 1 := by simp [len, add]
theorem len_put (σ : St) (i : Nat) (o : O) : (σ.put i o).len = σ.len := by simp [len, put]
theorem objs_add (σ : St) (o : O) (j : Nat) : (σ.add o).objs[j]? = if j = σ.len then some (o, 0) else σ.objs[j]? := by
  unfold add len
  by_cases h : j < σ.objs.length
  · simp [List.getElem?_append_left h, Nat.ne_of_lt h]
  · by_cases h2 : j = σ.objs.length
    · subst h2; simp
    · rw [if_neg h2, List.getElem?_eq_none (by simp; omega), List.getElem?_eq_none (by omega)]
theorem objs_put (σ : St) (i : Nat) (o : O) (j : Nat) : (σ.put i o).objs[j]? = if i = j then (if i < σ.len then some (o, σ.ver i + 1) else none) else σ.objs[j]? := by
  unfold put ver len
  rw [List.getElem?_modify]
  by_cases h : i = j
  · subst h
    rw [if_pos rfl]
    by_cases h2 : i < σ.objs.length
    · simp [h2]
    · simp [h2]
  · simp [h]
theorem get_add (σ : St) (o : O) (j : Nat) : (σ.add o).get j = if j = σ.len then some o else σ.get j := by
  unfold get
  rw [objs_add]
  split <;> rfl
theorem get_put (σ : St) (i : Nat) (o : O) (j : Nat) : (σ.put i o).get j = if i = j then (if i < σ.len then some o else none) else σ.get j := by
  unfold get
  rw [objs_put]
  split
  · split <;> rfl
  · rfl
theorem get_lt {σ : St} {i : Nat} {o : O} (h : σ.get i = some o) : i < σ.len := by
  unfold get at h
  obtain ⟨p, h1, _⟩ := Option.map_eq_some_iff.mp h
  exact (List.getElem?_eq_some_iff.mp h1).1
theorem get_some {σ : St} {i : Nat} (h : i < σ.len) : ∃ o, σ.get i = some o := ⟨(σ.objs[i]'h).1, by unfold get; rw [List.getElem?_eq_getElem h]; rfl⟩
theorem ver_add (σ : St) (o : O) {j : Nat} (h : j < σ.len) : (σ.add o).ver j = σ.ver j := by
  unfold ver
  rw [objs_add, if_neg (Nat.ne_of_lt h)]
theorem ver_put (σ : St) (i : Nat) (o : O) {j : Nat} (h : j < σ.len) : (σ.put i o).ver j = if i = j then σ.ver j + 1 else σ.ver j := by
  by_cases e : i = j
  · subst e
    rw [if_pos rfl]
    conv => lhs; unfold ver
    rw [objs_put, if_pos rfl, if_pos h]; rfl
  · rw [if_neg e]
    unfold ver
    rw [objs_put, if_neg e]
end St

noncomputable abbrev Loc := Nat → Option V
noncomputable def Loc.set (ℓ : Loc) (i : Nat) (v : V) : Loc := fun j => if j = i then some v else ℓ j

/- a flow of a block -/
inductive Fl where
  | next | ret (v : V) | exc (v : V)

mutual
/- a tree as data -/
noncomputable def toP : V → PyData
  | .none => .none
  | .bool b => .bool b
  | .int i => .int i
  | .str s => .str s
  | .tup l => .tuple (toPs l)
  | .obj _ => .none
  | .rng _ _ => .none
noncomputable def toPs : List V → List PyData
  | [] => []
  | x :: r => toP x :: toPs r
end
mutual
noncomputable def isT : V → Bool
  | .none | .bool _ | .int _ | .str _ => true
  | .tup l => isTs l
  | .obj _ | .rng _ _ => false
noncomputable def isTs : List V → Bool
  | [] => true
  | x :: r => isT x && isTs r
end

/-! looks at a value -/
noncomputable def intV (v : V) (Q : Int → Prop) : Prop := match v with
  | .int i => Q i
  | _ => False
noncomputable def boolV (v : V) (Q : Bool → Prop) : Prop := match v with
  | .bool b => Q b
  | _ => False
noncomputable def strV (v : V) (Q : Str → Prop) : Prop := match v with
  | .str b => Q b
  | _ => False
noncomputable def tupV (v : V) (Q : List V → Prop) : Prop := match v with
  | .tup b => Q b
  | _ => False
noncomputable def objV (v : V) (Q : Nat → Prop) : Prop := match v with
  | .obj b => Q b
  | _ => False
noncomputable def someV {α : Type} (o : Option α) (Q : α → Prop) : Prop := match o with
  | some v => Q v
  | none => False
noncomputable def one1 (l : List V) (Q : V → Prop) : Prop := match l with
  | [] => False
  | x :: r => match r with
    | [] => Q x
    | _ :: _ => False
noncomputable def two2 (l : List V) (Q : V → V → Prop) : Prop := match l with
  | [] => False
  | x :: r => one1 r (Q x)
/-! looks at an object -/
noncomputable def O.isL (o : O) (F : List V → Prop) : Prop := match o with
  | .list l => F l
  | _ => False
noncomputable def O.isD (o : O) (F : List (V × V) → Prop) : Prop := match o with
  | .dict l => F l
  | _ => False
noncomputable def O.isI (o : O) (F : Nat → List (Nat × V) → Prop) : Prop := match o with
  | .inst c fs => F c fs
  | _ => False
noncomputable def listO (i : Nat) (σ : St) (F : List V → Prop) : Prop := someV (σ.get i) fun o => o.isL F
noncomputable def dictO (i : Nat) (σ : St) (F : List (V × V) → Prop) : Prop := someV (σ.get i) fun o => o.isD F
noncomputable def instO (i : Nat) (σ : St) (F : Nat → List (Nat × V) → Prop) : Prop := someV (σ.get i) fun o => o.isI F

/- what == sees: trees, and lists of trees -/
noncomputable def datT (v : V) : Option PyData := if isT v && SeqAt.shaped (toP v) then some (toP v) else none
noncomputable def datL (l : List V) : Option PyData := if isTs l && SeqAt.shaped (.list (toPs l)) then some (.list (toPs l)) else none
noncomputable def O.lst : O → Option (List V)
  | .list l => some l
  | _ => none
noncomputable def datV (v : V) (σ : St) : Option PyData := match v with
  | .obj i => (σ.get i).bind fun o => o.lst.bind datL
  | v => datT v
noncomputable def eqD (a b : V) (σ : St) : Option Bool := (datV a σ).bind fun d => (datV b σ).map fun e => PyData.eqv d e
noncomputable def eqV (a b : V) (σ : St) : Option Bool := match a with
  | .int i => match b with | .int j => some (decide (i = j)) | b => eqD (.int i) b σ
  | .bool i => match b with | .bool j => some (i == j) | b => eqD (.bool i) b σ
  | .str i => match b with | .str j => some (decide (i = j)) | b => eqD (.str i) b σ
  | a => eqD a b σ

noncomputable def vI (v : V) : Option Int := match v with | .int i => some i | _ => none
noncomputable def vS (v : V) : Option Str := match v with | .str i => some i | _ => none
noncomputable def vT (v : V) : Option (List V) := match v with | .tup i => some i | _ => none
/- two numbers -/
noncomputable def pair2 (l : List V) : Option (Int × Int) := match l with
  | [] => none
  | x :: r => match r with
    | [] => none
    | y :: r => match r with
      | [] => (vI x).bind fun i => (vI y).map fun j => (i, j)
      | _ :: _ => none
/- a key that a dict of ours takes -/
noncomputable def keyKind (v : V) : Nat := match v with
  | .int _ => 1
  | .str _ => 2
  | .tup l => match pair2 l with
    | some _ => 3
    | none => 0
  | _ => 0
noncomputable def eqKey (a b : V) : Bool := match a with
  | .int i => match b with | .int j => decide (i = j) | _ => false
  | .str s => match b with | .str t => decide (s = t) | _ => false
  | .tup l => match b with
    | .tup m => (pair2 l).any fun x => (pair2 m).any fun y => decide (x.1 = y.1) && decide (x.2 = y.2)
    | _ => false
  | _ => false
noncomputable def dget (k : V) : List (V × V) → Option V
  | [] => none
  | (x, v) :: r => if eqKey x k then some v else dget k r
noncomputable def dput (k v : V) : List (V × V) → List (V × V)
  | [] => [(k, v)]
  | (x, u) :: r => if eqKey x k then (x, v) :: r else (x, u) :: dput k v r
noncomputable def dfit (k : V) (es : List (V × V)) : Prop := keyKind k ≠ 0 ∧ ∀ e ∈ es, keyKind e.1 = keyKind k

noncomputable def big : Nat := 1000000

/- an operation on an object: where a walk stops -/
structure Op (P : Prop) : Prop where
  out : P

noncomputable def notT : Option Bool → Option Bool
  | some b => some (!b)
  | none => none

noncomputable def strIn (s : Str) : List V → Option Bool
  | [] => some false
  | v :: r => (vS v).bind fun t => (strIn s r).map fun b => t == s || b

noncomputable def isNoneV : V → Bool
  | .none => true
  | _ => false

noncomputable def intB (a b : V) (f : Int → Int → Option Bool) : Option Bool := match a with
  | .int i => match b with
    | .int j => f i j
    | _ => none
  | _ => none
noncomputable def cmpV (op : CmpOp) (a b : V) (σ : St) : Option Bool := match op with
  | .Eq => eqV a b σ
  | .NotEq => notT (eqV a b σ)
  | .Lt => intB a b fun i j => some (decide (i < j))
  | .LtE => intB a b fun i j => some (decide (i ≤ j))
  | .Gt => intB a b fun i j => some (decide (i > j))
  | .GtE => intB a b fun i j => some (decide (i ≥ j))
  | .Is => match isNoneV b with | true => some (isNoneV a) | false => none
  | .IsNot => match isNoneV b with | true => some (!isNoneV a) | false => none
  | _ => none

/- x in s -/
noncomputable def inO (k : V) (i : Nat) (σ : St) (Q : Bool → Prop) : Prop := dictO i σ fun es => (dfit k es ∧ keyKind k ≠ 3) ∧ Q (dget k es).isSome
noncomputable def inV (a b : V) (σ : St) (Q : Bool → Prop) : Prop := match b with
  | .tup l => strV a fun s => someV (strIn s l) Q
  | .obj i => Op (inO a i σ Q)
  | _ => False
/- x not in s: dicts alone -/
noncomputable def ninV (a b : V) (σ : St) (Q : Bool → Prop) : Prop := objV b fun i => Op (inO a i σ Q)

noncomputable def binV (op : Operator) (a b : V) (Q : V → Prop) : Prop := intV a fun i => intV b fun j => match op with
    | .Add => Q (.int (i + j))
    | .Sub => Q (.int (i - j))
    | .Mult => (i.natAbs < 2 ^ 62 ∧ j.natAbs < 2 ^ 62) ∧ Q (.int (i * j))
    | .FloorDiv => (0 < j ∧ j < 2 ^ 30) ∧ Q (.int (i.fdiv j))
    | .Mod => (0 < j ∧ j < 2 ^ 62) ∧ Q (.int (i.fmod j))
    | _ => False

noncomputable def lget {α : Type} (n : Nat) : List (Nat × α) → Option α
  | [] => none
  | (m, v) :: r => if m = n then some v else lget n r
noncomputable def lput {α : Type} (n : Nat) (v : α) : List (Nat × α) → List (Nat × α)
  | [] => [(n, v)]
  | (m, u) :: r => if m = n then (m, v) :: r else (m, u) :: lput n v r

/- the fields of each class -/
noncomputable def fieldOk (c n : Nat) : Bool := match c with
  | 0 => n < 4
  | 1 => 4 ≤ n && n < 10
  | 2 => (10 ≤ n && n < 19) || n == 5
  | 4 => 19 ≤ n && n < 28
  | 5 => n == 10 || (28 ≤ n && n < 31)
  | _ => false
/- the methods of each class -/
noncomputable def methOk (c n : Nat) : Bool := match c with
  | 0 => n == 36 || n == 37 || n == 38 || n == 39 || n == 10 || n == 4
  | 1 => n == 40 || n == 41
  | 2 => n == 54
  | 4 => 43 ≤ n && n < 54
  | _ => false
noncomputable def methId (c n : Nat) : Nat := 100 * (c + 1) + n
noncomputable def initId (c : Nat) : Nat := 50 + c

noncomputable def attrO (i n : Nat) (σ : St) (Q : V → Prop) : Prop := instO i σ fun c fs => fieldOk c n = true ∧ someV (lget n fs) Q
noncomputable def attrV (v : V) (n : Nat) (σ : St) (Q : V → Prop) : Prop := objV v fun i => Op (attrO i n σ Q)

noncomputable def setattrO (i n : Nat) (v : V) (σ : St) (Q : St → Prop) : Prop := instO i σ fun c fs => (fieldOk c n = true ∧ fs.length < 100) ∧ Q (σ.put i (.inst c (lput n v fs)))
noncomputable def setattrV (o : V) (n : Nat) (v : V) (σ : St) (Q : St → Prop) : Prop := objV o fun i => Op (setattrO i n v σ Q)

noncomputable def O.sub (o : O) (i : V) (Q : V → Prop) : Prop := match o with
  | .list l => intV i fun k => (0 ≤ k ∧ k < 2 ^ 62) ∧ someV l[k.toNat]? Q
  | .dict es => dfit i es ∧ someV (dget i es) Q
  | _ => False
noncomputable def subO (j : Nat) (i : V) (σ : St) (Q : V → Prop) : Prop := someV (σ.get j) fun o => o.sub i Q
noncomputable def subV (v i : V) (σ : St) (Q : V → Prop) : Prop := match v with
  | .tup l => intV i fun k => (0 ≤ k ∧ k < 2 ^ 62) ∧ someV l[k.toNat]? Q
  | .str s => intV i fun k => (0 ≤ k ∧ k < 2 ^ 62) ∧ someV s.cps[k.toNat]? fun x => Q (.str ⟨#[x]⟩)
  | .obj j => Op (subO j i σ Q)
  | _ => False

noncomputable def O.setsub (o : O) (j : Nat) (i v : V) (σ : St) (Q : St → Prop) : Prop := match o with
  | .list l => intV i fun k => (0 ≤ k ∧ k < l.length ∧ l.length < big) ∧ Q (σ.put j (.list (l.set k.toNat v)))
  | .dict es => (dfit i es ∧ es.length < big) ∧ Q (σ.put j (.dict (dput i v es)))
  | _ => False
noncomputable def setsubO (j : Nat) (i v : V) (σ : St) (Q : St → Prop) : Prop := someV (σ.get j) fun o => o.setsub j i v σ Q
noncomputable def setsubV (o i v : V) (σ : St) (Q : St → Prop) : Prop := objV o fun j => Op (setsubO j i v σ Q)

noncomputable def sliceO (j : Nat) (k : Int) (σ : St) (Q : V → St → Prop) : Prop := listO j σ fun l => (0 ≤ k ∧ k < 2 ^ 62 ∧ l.length < big) ∧ Q (.obj σ.len) (σ.add (.list (l.take k.toNat)))
noncomputable def sliceV (v u : V) (σ : St) (Q : V → St → Prop) : Prop := objV v fun j => intV u fun k => Op (sliceO j k σ Q)

noncomputable def intsOf : List V → Option (List Int)
  | [] => some []
  | v :: r => (vI v).bind fun i => (intsOf r).map fun l => i :: l
noncomputable def toInts (l : List Int) : List V := l.map .int
noncomputable def rangeL (a b : Int) : List V := (List.range (b - a).toNat).map fun (j : Nat) => V.int (a + (j : Int))

/- the rows that sorted takes: (text, int, int) -/
structure Row3 where
  s : Str
  a : Int
  b : Int
noncomputable def row3V (r : Row3) : V := .tup [.str r.s, .int r.a, .int r.b]
noncomputable def row3? (v : V) : Option Row3 := match v with
  | .tup l => match l with
    | [] => none
    | x :: r => (vS x).bind fun s => (pair2 r).map fun p => ⟨s, p.1, p.2⟩
  | _ => none
noncomputable def rows3 : List V → Option (List Row3)
  | [] => some []
  | v :: r => (row3? v).bind fun x => (rows3 r).map fun l => x :: l

/- what sorted gives (left open here) -/
structure SortFn where
  f : List Row3 → List Row3

noncomputable abbrev FnSpec := List V → St → (V → St → Prop) → (V → St → Prop) → Prop
structure Env' where
  fn : Nat → FnSpec
  srt : List Row3 → List Row3

noncomputable def lenV (x : V) (σ : St) (Q : Int → Prop) : Prop := match x with
  | .tup l => l.length < big ∧ Q l.length
  | .str s => s.length < big ∧ Q s.length
  | .obj i => Op (listO i σ fun l => l.length < big ∧ Q l.length)
  | _ => False
noncomputable def toListV (x : V) (σ : St) (Q : V → St → Prop) : Prop := match x with
  | .rng a b => (b - a).toNat < big ∧ Q (.obj σ.len) (σ.add (.list (rangeL a b)))
  | .obj i => Op (listO i σ fun l => l.length < big ∧ Q (.obj σ.len) (σ.add (.list l)))
  | _ => False
noncomputable def rangeV (vs : List V) (Q : V → Prop) : Prop := match vs with
  | [] => False
  | x :: r => match r with
    | [] => intV x fun b => b.natAbs < 2 ^ 60 ∧ Q (.rng 0 b)
    | y :: r => match r with
      | [] => intV x fun a => intV y fun b => (a.natAbs < 2 ^ 60 ∧ b.natAbs < 2 ^ 60) ∧ Q (.rng a b)
      | _ :: _ => False
/- is it of this kind? -/
noncomputable def kindIs (f : Fn) : V → Option Bool
  | .int _ => some (match f with | .isInt => true | _ => false)
  | .bool _ => some (match f with | .isInt => true | .isBool => true | _ => false)
  | .str _ => some (match f with | .isStr => true | _ => false)
  | .tup _ => some (match f with | .isTuple => true | _ => false)
  | .none => some false
  | _ => none
noncomputable def isV (f : Fn) (vs : List V) (Q : Bool → Prop) : Prop := one1 vs fun x => someV (kindIs f x) Q
noncomputable def callV (Γ : Env') (f : Fn) (vs : List V) (σ : St) (Q : V → St → Prop) : Prop := match f with
  | .usr k => Γ.fn k vs σ Q (fun ζ ζ => False)
  | .cls c => match c == 6 with
    | true => one1 vs fun b => Q (.obj σ.len) (σ.add (.exc b))
    | false => Γ.fn (initId c) (.obj σ.len :: vs) (σ.add (.inst c [])) (fun r σ' => r = .none ∧ Q (.obj σ.len) σ') (fun ζ ζ => False)
  | .len => one1 vs fun x => lenV x σ fun i => Q (.int i) σ
  | .sum => one1 vs fun x => objV x fun i => Op (listO i σ fun l => someV (intsOf l) fun ns => Q (.int ns.sum) σ)
  | .min => two2 vs fun x y => intV x fun a => intV y fun b => Q (.int (if b < a then b else a)) σ
  | .range => rangeV vs fun v => Q v σ
  | .list => one1 vs fun x => toListV x σ Q
  | .tuple => one1 vs fun x => objV x fun i => Op (listO i σ fun l => l.length < 16000 ∧ Q (.tup l) σ)
  | .sorted => one1 vs fun x => objV x fun i => Op (listO i σ fun l => someV (rows3 l) fun rs => rs.length < 60 ∧ Q (.obj σ.len) (σ.add (.list ((Γ.srt rs).map row3V))))
  | f => isV f vs fun b => Q (.bool b) σ

/- which method: of an object, or of a built-in kind -/
inductive Mt where
  | usr (id : Nat) | append | get | startswith
noncomputable def O.meth (o : O) (n : Nat) (Q : Mt → Prop) : Prop := match o with
  | .inst c fs => (methOk c n = true ∧ lget n fs = none) ∧ Q (.usr (methId c n))
  | .list _ => n = 33 ∧ Q .append
  | .dict _ => n = 34 ∧ Q .get
  | _ => False
noncomputable def methO (i n : Nat) (σ : St) (Q : Mt → Prop) : Prop := someV (σ.get i) fun o => o.meth n Q
noncomputable def methV (v : V) (n : Nat) (σ : St) (Q : Mt → Prop) : Prop := match v with
  | .str _ => n = 35 ∧ Q .startswith
  | .obj i => Op (methO i n σ Q)
  | _ => False
noncomputable def dgetO (i : Nat) (k d : V) (σ : St) (Q : V → St → Prop) : Prop := dictO i σ fun es => dfit k es ∧ Q ((dget k es).getD d) σ
noncomputable def getV (i : Nat) (vs : List V) (σ : St) (Q : V → St → Prop) : Prop := match vs with
  | [] => False
  | k :: r => match r with
    | [] => Op (dgetO i k .none σ Q)
    | d :: r => match r with
      | [] => Op (dgetO i k d σ Q)
      | _ :: _ => False
noncomputable def mcallV (Γ : Env') (m : Mt) (v : V) (vs : List V) (σ : St) (Q : V → St → Prop) (X : V → St → Prop) : Prop := match m with
  | .usr id => Γ.fn id (v :: vs) σ Q X
  | .append => objV v fun i => one1 vs fun x => Op (listO i σ fun l => l.length < big ∧ Q .none (σ.put i (.list (l ++ [x]))))
  | .get => objV v fun i => getV i vs σ Q
  | .startswith => strV v fun s => one1 vs fun x => strV x fun t => Q (.bool (PySem.Txt.startswith s t)) σ

/- a dict display: the pairs in order -/
noncomputable def mkD : List V → List (V × V) → (List (V × V) → Prop) → Prop
  | [], acc, Q => Q acc
  | k :: v :: r, acc, Q => (dfit k acc ∧ acc.length < big) ∧ mkD r (dput k v acc) Q
  | [_], _, _ => False

/- what a source gives, and the number of its changes -/
noncomputable def intKeys (es : List (V × V)) : Option (List V) := if es.all (fun e => keyKind e.1 == 1) then some (es.map (·.1)) else none
noncomputable def O.items : O → Option (List V)
  | .list l => some l
  | .dict es => intKeys es
  | _ => none
noncomputable def srcItems (σ : St) : V → Option (List V)
  | .tup l => some l
  | .rng a b => some (rangeL a b)
  | .obj i => (σ.get i).bind O.items
  | _ => none
noncomputable def srcVer (σ : St) : V → Nat
  | .obj i => σ.ver i
  | _ => 0

noncomputable abbrev someB (o : Option Bool) (Q : Bool → Prop) : Prop := someV o Q
/- every comparison -/
noncomputable def cmpD (op : CmpOp) (x y : V) (σ : St) (Q : Bool → Prop) : Prop := match op with
  | .In => inV x y σ Q
  | .NotIn => ninV x y σ fun r => Q (!r)
  | op => someB (cmpV op x y σ) Q
noncomputable abbrev someL (o : Option (List V)) (Q : List V → Prop) : Prop := someV o Q
/- what a source gives -/
noncomputable def srcV (σ : St) (v : V) (Q : List V → Prop) : Prop := match v with
  | .tup l => Q l
  | .rng a b => Q (rangeL a b)
  | v => Op (someL (srcItems σ v) Q)
theorem srcV_out {σ : St} {v : V} {Q : List V → Prop} (h : srcV σ v Q) : someL (srcItems σ v) Q := by
  cases v <;> first | exact h | exact Op.out h
/- an exception to be raised -/
noncomputable def O.isX (o : O) (F : V → Prop) : Prop := match o with
  | .exc b => F b
  | _ => False
noncomputable def excO (i : Nat) (σ : St) (Q : Nat → V → Prop) : Prop := someV (σ.get i) fun o => o.isX (Q i)
noncomputable def excV (v : V) (σ : St) (Q : Nat → V → Prop) : Prop := objV v fun i => Op (excO i σ Q)
/- how a block goes on after a statement -/
noncomputable def thenFl (fl : Fl) (N : Prop) (R : Fl → Prop) : Prop := match fl with
  | .next => N
  | fl => R fl
noncomputable def ifB (b : Bool) (P Q : Prop) : Prop := match b with
  | true => P
  | false => Q

noncomputable def compLoop (elt : Loc → St → (V → St → Prop) → Prop) (conds : Loc → St → (Bool → St → Prop) → Prop) (v : V) (n : Nat) (x : Nat) (ℓ : Loc) :
    List V → List V → St → (List V → St → Prop) → Prop
  | [], acc, σ, Q => srcVer σ v = n ∧ Q acc σ
  | it :: r, acc, σ, Q => srcVer σ v = n ∧ conds (ℓ.set x it) σ fun b σ' => ifB b (elt (ℓ.set x it) σ' fun y σ'' => compLoop elt conds v n x ℓ r (acc ++ [y]) σ'' Q) (compLoop elt conds v n x ℓ r acc σ' Q)

noncomputable def linked (m : List (Nat × Nat)) (ℓ : Loc) : Loc := fun j => match lget j m with
  | some i => ℓ i
  | none => none

/-! how a walk goes on, each way by a name (so that a goal stays small) -/
noncomputable abbrev KV := V → St → Prop
noncomputable abbrev KL := List V → St → Prop
noncomputable abbrev KB := Bool → St → Prop
noncomputable abbrev KF := Fl → Loc → St → Prop
section
variable (Γ : Env') (w u : Loc → St → KV → Prop) (ws : Loc → St → KL → Prop) (wb wc : Loc → St → KB → Prop) (b c : Loc → St → KF → Prop) (op : Operator) (cp : CmpOp) (ℓ : Loc) (σ : St) (Q X : KV) (QL : KL) (QB : KB) (QF : KF) (n i : Nat) (x v : V) (vs : List V)
noncomputable def noX : KV := fun ζ ζ => False
noncomputable def kAt : V → Prop := fun v => Q v σ
noncomputable def kAtB : Bool → Prop := fun b => Q (.bool b) σ
noncomputable def kNeg : KV := fun v σ => intV v fun i => Q (.int (-i)) σ
noncomputable def kNot : KV := fun v σ => boolV v fun b => Q (.bool (!b)) σ
noncomputable def kBin2 : KV := fun y σ => binV op x y (kAt σ Q)
noncomputable def kBin : KV := fun x σ => w ℓ σ (kBin2 op Q x)
noncomputable def kCmp2 : KV := fun y σ => cmpD cp x y σ (kAtB σ Q)
noncomputable def kCmp : KV := fun x σ => w ℓ σ (kCmp2 cp Q x)
noncomputable def kBQ : KB := fun b σ => Q (.bool b) σ
noncomputable def kIte : KV := fun v σ => boolV v fun r => ifB r (w ℓ σ Q) (u ℓ σ Q)
noncomputable def kTup : KL := fun vs σ => Q (.tup vs) σ
noncomputable def kNewL : KL := fun vs σ => Q (.obj σ.len) (σ.add (.list vs))
noncomputable def kNewD : List (V × V) → Prop := fun es => Q (.obj σ.len) (σ.add (.dict es))
noncomputable def kDict : KL := fun vs σ => mkD vs [] (kNewD σ Q)
noncomputable def kAttr : KV := fun v σ => attrV v n σ (kAt σ Q)
noncomputable def kSub2 : KV := fun k σ => subV x k σ (kAt σ Q)
noncomputable def kSub : KV := fun v σ => w ℓ σ (kSub2 Q v)
noncomputable def kSl2 : KV := fun k σ => sliceV x k σ Q
noncomputable def kSl : KV := fun v σ => w ℓ σ (kSl2 Q v)
noncomputable def kCall (f : Fn) : KL := fun vs σ => callV Γ f vs σ Q
noncomputable def kBase : KL := fun vs σ => Γ.fn (initId n) vs σ Q noX
noncomputable def kM3 (m : Mt) : KL := fun vs σ => mcallV Γ m v vs σ Q X
noncomputable def kM2 : Mt → Prop := fun m => ws ℓ σ (kM3 Γ Q X v m)
noncomputable def kM : KV := fun v σ => methV v n σ (kM2 Γ ws ℓ σ Q X v)
noncomputable def kComp2 (y : Nat) (lk : List (Nat × Nat)) : List V → Prop := fun l => l.length < big ∧ compLoop w wc v (srcVer σ v) y (linked lk ℓ) l [] σ (kNewL Q)
noncomputable def kComp (y : Nat) (lk : List (Nat × Nat)) : KV := fun v σ => srcV σ v (kComp2 w wc ℓ σ Q v y lk)
noncomputable def kBool : KV := fun v σ => boolV v fun b => QB b σ
noncomputable def kAnd : KV := fun v σ => boolV v fun b => ifB b (wb ℓ σ QB) (QB false σ)
noncomputable def kOr : KV := fun v σ => boolV v fun b => ifB b (QB true σ) (wb ℓ σ QB)
noncomputable def kCons2 : KL := fun vs σ => QL (x :: vs) σ
noncomputable def kCons : KV := fun v σ => ws ℓ σ (kCons2 QL v)
end

mutual
noncomputable def wE (Γ : Env') : IE → Loc → St → (V → St → Prop) → Prop
  | .val v, _, σ, Q => Q v σ
  | .loc i, ℓ, σ, Q => someV (ℓ i) (kAt σ Q)
  | .neg e, ℓ, σ, Q => wE Γ e ℓ σ (kNeg Q)
  | .not e, ℓ, σ, Q => wE Γ e ℓ σ (kNot Q)
  | .bin op a b, ℓ, σ, Q => wE Γ a ℓ σ (kBin (wE Γ b) op ℓ Q)
  | .cmp op a b, ℓ, σ, Q => wE Γ a ℓ σ (kCmp (wE Γ b) op ℓ Q)
  | .bop op l, ℓ, σ, Q => wB Γ op l ℓ σ (kBQ Q)
  | .ite c a b, ℓ, σ, Q => wE Γ c ℓ σ (kIte (wE Γ a) (wE Γ b) ℓ Q)
  | .tup l, ℓ, σ, Q => wEs Γ l ℓ σ (kTup Q)
  | .list l, ℓ, σ, Q => wEs Γ l ℓ σ (kNewL Q)
  | .cdict l, _, σ, Q => Q (.obj σ.len) (σ.add (.dict (l.map fun p => (V.str p.1, V.str p.2))))
  | .dict l, ℓ, σ, Q => wEs Γ l ℓ σ (kDict Q)
  | .attr e n, ℓ, σ, Q => wE Γ e ℓ σ (kAttr Q n)
  | .sub e i, ℓ, σ, Q => wE Γ e ℓ σ (kSub (wE Γ i) ℓ Q)
  | .slice e u, ℓ, σ, Q => wE Γ e ℓ σ (kSl (wE Γ u) ℓ Q)
  | .call f l, ℓ, σ, Q => wEs Γ l ℓ σ (kCall Γ Q f)
  | .base k l, ℓ, σ, Q => wEs Γ l ℓ σ (kBase Γ Q k)
  | .mcall o n l, ℓ, σ, Q => wE Γ o ℓ σ (kM Γ (wEs Γ l) ℓ Q noX n)
  | .comp elt x src conds lk, ℓ, σ, Q => wE Γ src ℓ σ (kComp (wE Γ elt) (wC Γ conds) ℓ Q x lk)
/- the tests of a comprehension -/
noncomputable def wC (Γ : Env') : IEs → Loc → St → (Bool → St → Prop) → Prop
  | .nil, _, σ, Q => Q true σ
  | .cons e .nil, ℓ, σ, Q => wE Γ e ℓ σ (kBool Q)
  | .cons _ (.cons ..), _, _, _ => False
/- and, or -/
noncomputable def wB (Γ : Env') : BoolOp → IEs → Loc → St → (Bool → St → Prop) → Prop
  | _, .nil, _, _, _ => False
  | _, .cons e .nil, ℓ, σ, Q => wE Γ e ℓ σ (kBool Q)
  | .And, .cons e (.cons f r), ℓ, σ, Q => wE Γ e ℓ σ (kAnd (wB Γ .And (.cons f r)) ℓ Q)
  | .Or, .cons e (.cons f r), ℓ, σ, Q => wE Γ e ℓ σ (kOr (wB Γ .Or (.cons f r)) ℓ Q)
noncomputable def wEs (Γ : Env') : IEs → Loc → St → (List V → St → Prop) → Prop
  | .nil, _, σ, Q => Q [] σ
  | .cons e l, ℓ, σ, Q => wE Γ e ℓ σ (kCons (wEs Γ l) ℓ Q)
end

/- how a loop goes on after its body -/
noncomputable def onFl (fl : Fl) (N : Prop) (R : V → Prop) : Prop := match fl with
  | .next => N
  | .ret y => R y
  | .exc _ => False

noncomputable def forLoop (body : Loc → St → (Fl → Loc → St → Prop) → Prop) (v : V) (n : Nat) (x : Nat) : List V → Loc → St → (Fl → Loc → St → Prop) → Prop
  | [], ℓ, σ, Q => srcVer σ v = n ∧ Q .next ℓ σ
  | it :: r, ℓ, σ, Q => srcVer σ v = n ∧ body (ℓ.set x it) σ fun fl ℓ' σ' => onFl fl (forLoop body v n x r ℓ' σ' Q) fun y => Q (.ret y) ℓ' σ'

noncomputable def whileLoop (test : Loc → St → (V → St → Prop) → Prop) (body : Loc → St → (Fl → Loc → St → Prop) → Prop) : Nat → Loc → St → (Fl → Loc → St → Prop) → Prop
  | 0, _, _, _ => False
  | m + 1, ℓ, σ, Q => test ℓ σ fun v σ => boolV v fun b => ifB b (body ℓ σ fun fl ℓ' σ' => onFl fl (whileLoop test body m ℓ' σ' Q) fun r => Q (.ret r) ℓ' σ') (Q .next ℓ σ)

section
variable (Γ : Env') (w u : Loc → St → KV → Prop) (ws : Loc → St → KL → Prop) (b c : Loc → St → KF → Prop) (op : Operator) (ℓ : Loc) (σ : St) (Q : KF) (n i : Nat) (x v : V)
noncomputable def kExpr : KV := fun ζ σ => Q .next ℓ σ
noncomputable def kAsg : KV := fun v σ => Q .next (ℓ.set i v) σ
noncomputable def kNx : St → Prop := fun σ => Q .next ℓ σ
noncomputable def kSA2 : KV := fun ov σ => setattrV ov n v σ (kNx ℓ Q)
noncomputable def kSA : KV := fun v σ => w ℓ σ (kSA2 ℓ Q n v)
noncomputable def kSS3 : KV := fun iv σ => setsubV x iv v σ (kNx ℓ Q)
noncomputable def kSS2 : KV := fun ov σ => w ℓ σ (kSS3 ℓ Q ov v)
noncomputable def kSS : KV := fun v σ => u ℓ σ (kSS2 w ℓ Q v)
noncomputable def kAug3 : V → Prop := fun r => Q .next (ℓ.set i r) σ
noncomputable def kAug2 : KV := fun v σ => op = .Add ∧ binV .Add x v (kAug3 ℓ σ Q i)
noncomputable def kAug : V → Prop := fun old => w ℓ σ (kAug2 op ℓ Q i old)
noncomputable def kIf : KV := fun v σ => boolV v fun r => ifB r (b ℓ σ Q) (c ℓ σ Q)
noncomputable def kFor2 : List V → Prop := fun l => l.length < big ∧ forLoop b v (srcVer σ v) n l ℓ σ Q
noncomputable def kFor : KV := fun v σ => srcV σ v (kFor2 b ℓ σ Q n v)
noncomputable def kRet : KV := fun v σ => Q (.ret v) ℓ σ
noncomputable def kRaise : KV := fun v σ => excV v σ fun i b => Q (.exc b) ℓ (σ.put i .exd)
noncomputable def kSeq : KF := fun fl ℓ σ => thenFl fl (b ℓ σ Q) fun fl => Q fl ℓ σ
end

mutual
noncomputable def wS (Γ : Env') : IS → Loc → St → (Fl → Loc → St → Prop) → Prop
  | .dead, _, _, _ => False
  | .expr e, ℓ, σ, Q => wE Γ e ℓ σ (kExpr ℓ Q)
  | .assign i e, ℓ, σ, Q => wE Γ e ℓ σ (kAsg ℓ Q i)
  | .assignC i e, ℓ, σ, Q => wE Γ e ℓ σ (kAsg ℓ Q i)
  | .setattr o n e, ℓ, σ, Q => wE Γ e ℓ σ (kSA (wE Γ o) ℓ Q n)
  | .setsub o i e, ℓ, σ, Q => wE Γ e ℓ σ (kSS (wE Γ i) (wE Γ o) ℓ Q)
  | .aug i op e, ℓ, σ, Q => someV (ℓ i) (kAug (wE Γ e) op ℓ σ Q i)
  | .ite c t e, ℓ, σ, Q => wE Γ c ℓ σ (kIf (wSs Γ t) (wSs Γ e) ℓ Q)
  | .while c b, ℓ, σ, Q => ∃ m, whileLoop (wE Γ c) (wSs Γ b) m ℓ σ Q
  | .for x src b, ℓ, σ, Q => wE Γ src ℓ σ (kFor (wSs Γ b) ℓ Q x)
  | .ret e, ℓ, σ, Q => wE Γ e ℓ σ (kRet ℓ Q)
  | .raise e, ℓ, σ, Q => wE Γ e ℓ σ (kRaise ℓ Q)
  | .try1 o n l x a y, ℓ, σ, Q => ℓ x = none ∧ wE Γ o ℓ σ fun v σ => methV v n σ fun m => wEs Γ l ℓ σ fun vs σ => mcallV Γ m v vs σ noX fun b σ =>
      a = 31 ∧ someV (ℓ y) fun d => someB (eqV b d σ) fun r => ifB r (Q .next ℓ σ) (Q (.ret (.bool false)) ℓ σ)
noncomputable def wSs (Γ : Env') : ISs → Loc → St → (Fl → Loc → St → Prop) → Prop
  | .nil, ℓ, σ, Q => Q .next ℓ σ
  | .cons s r, ℓ, σ, Q => wS Γ s ℓ σ (kSeq (wSs Γ r) Q)
end
end Mine.Internal
end
section
open PySem PySem.W PySem.Calls PyProof.Rows
namespace Mine.Internal

structure Cx where
  prog : Program
  w : World
  K : Frag
  B : Heap
  os : OsState
  ca : Nat → Addr

noncomputable abbrev Cx.M (c : Cx) : Model := model c.prog c.w

noncomputable abbrev lobj (xs : Array Value) (k : Nat) : Obj := { cls := .type "list", data := .seq xs k }
noncomputable abbrev tobj (xs : Array Value) (k : Nat) : Obj := { cls := .type "tuple", data := .seq xs k }
noncomputable abbrev dobj (ds : Array DictEntry) (k : Nat) : Obj := { cls := .type "dict", data := .dict ds k }
noncomputable abbrev iobj (C d : Addr) : Obj := { cls := .ref C, dict := some d, data := .plain }
noncomputable abbrev xobj (C t d : Addr) : Obj := { cls := .ref C, dict := some d, data := .fields #[.ref t, .none, .none, .none, .bool false, .none] }

mutual
noncomputable def VRel (μ : Nat → Addr) (n : Nat) (h : Heap) : V → Value → Prop
  | .none, v => v = .none
  | .bool b, v => v = .bool b
  | .int i, v => ∃ t, v = .int i t
  | .str s, v => ∃ t, v = .str s t
  | .tup l, v => ∃ a xs k, v = .ref a ∧ h.get? a = some (tobj xs k) ∧ VsRel μ n h l xs.toList
  | .obj i, v => i < n ∧ v = .ref (μ (2 * i))
  | .rng a b, v => ∃ r t u z, v = .ref r ∧ IsRange h r a b 1 t u z ∧ a.natAbs < 2 ^ 60 ∧ b.natAbs < 2 ^ 60
noncomputable def VsRel (μ : Nat → Addr) (n : Nat) (h : Heap) : List V → List Value → Prop
  | [], vs => vs = []
  | x :: r, vs => ∃ v ws, vs = v :: ws ∧ VRel μ n h x v ∧ VsRel μ n h r ws
end

/- a dict's pairs by keys of one kind -/
noncomputable def KvK {K : Type} (enc : K → V) (μ : Nat → Addr) (n : Nat) (h : Heap) : List (V × V) → List (K × Value) → Prop
  | [], kvs => kvs = []
  | (k, v) :: r, kvs => ∃ a w q, kvs = (a, w) :: q ∧ k = enc a ∧ VRel μ n h v w ∧ KvK enc μ n h r q
noncomputable def KvT (μ : Nat → Addr) (n : Nat) (h : Heap) : List (V × V) → List (List Int × Addr × Value) → Prop
  | [], kvs => kvs = []
  | (k, v) :: r, kvs => ∃ i j a w q, kvs = ([i, j], a, w) :: q ∧ k = .tup [.int i, .int j] ∧ VRel μ n h v w ∧ KvT μ n h r q

noncomputable def DRel (c : Cx) (μ : Nat → Addr) (n : Nat) (h : Heap) (d : Addr) (es : List (V × V)) : Prop :=
  (∃ kvs, h.DictOf (intKind c.prog c.w) d kvs ∧ KvK V.int μ n h es kvs) ∨ (∃ kvs, h.DictOf (strKind c.prog c.w) d kvs ∧ KvK V.str μ n h es kvs) ∨
    (∃ kvs, h.DictOfH (tupleKind (intKind c.prog c.w)) d kvs ∧ KvT μ n h es kvs)

noncomputable def atName (m : Nat) : Str := (atNames[m]?).getD Str.empty

noncomputable def FsRel (c : Cx) (μ : Nat → Addr) (n : Nat) (h : Heap) : List (Nat × V) → List DictEntry → Prop
  | [], ds => ds = []
  | (m, v) :: r, ds => ∃ e es t, ds = e :: es ∧ e.key = .str (atName m) t ∧ e.hash = PyData.keyHash c.w.params (atName m) ∧ m < 33 ∧ VRel μ n h v e.val ∧ FsRel c μ n h r es

noncomputable def ORel (c : Cx) (μ : Nat → Addr) (n : Nat) (h : Heap) (i : Nat) : O → Prop
  | .list l => ∃ xs k, h.get? (μ (2 * i)) = some (lobj xs k) ∧ VsRel μ n h l xs.toList
  | .dict es => DRel c μ n h (μ (2 * i)) es ∧ μ (2 * i) ≠ sysModules
  | .inst cl fs => h.get? (μ (2 * i)) = some (iobj (c.ca cl) (μ (2 * i + 1))) ∧ ∃ ds k, h.get? (μ (2 * i + 1)) = some (dobj ds k) ∧ FsRel c μ n h fs ds.toList ∧ (fs.map (·.1)).Nodup
  | .exc b => ∃ t a0 ds k, h.get? (μ (2 * i)) = some (xobj (c.ca 6) t (μ (2 * i + 1))) ∧ h.get? t = some (tobj #[a0] 0) ∧ h.get? (μ (2 * i + 1)) = some (dobj ds k) ∧ FsRel c μ n h [(31, b)] ds.toList
  | .exd => ∃ o o', h.get? (μ (2 * i)) = some o ∧ o.cls = .ref (c.ca 6) ∧ h.get? (μ (2 * i + 1)) = some o' ∧ o'.cls = .type "dict"

noncomputable def O.two : O → Bool
  | .inst .. | .exc _ | .exd => true
  | _ => false

noncomputable def Used (σ : St) (j : Nat) : Prop := ∃ o, σ.get (j / 2) = some o ∧ (j % 2 = 0 ∨ o.two = true)

structure Rel (c : Cx) (μ : Nat → Addr) (σ : St) (s : Shared) : Prop where
  keep : c.B.StaysIn s.heap
  gens : s.gens = #[]
  os : s.os = c.os
  news : ∀ j, Used σ j → c.B.get? (μ j) = none
  inj : ∀ i j, Used σ i → Used σ j → μ i = μ j → i = j
  obj : ∀ i o, σ.get i = some o → ORel c μ σ.len s.heap i o

/- from one state to a later one; P: addresses that may turn besides -/
structure Step (P : Addr → Prop) (μ : Nat → Addr) (σ : St) (h : Heap) (μ' : Nat → Addr) (σ' : St) (h' : Heap) : Prop where
  live : ∀ b o, h.get? b = some o → ∃ o', h'.get? b = some o'
  len : σ.len ≤ σ'.len
  mono : ∀ j, Used σ j → Used σ' j
  same : ∀ j, Used σ j → μ' j = μ j
  fresh : ∀ j, Used σ' j → ¬ Used σ j → h.get? (μ' j) = none
  keep : ∀ b o, h.get? b = some o → (∀ j, Used σ j → μ j ≠ b) → ¬ P b → h'.get? b = some o
  vers : ∀ i, i < σ.len → σ.ver i ≤ σ'.ver i
  obj : ∀ i, i < σ.len → σ'.ver i = σ.ver i → σ'.get i = σ.get i
  still : ∀ j, Used σ j → σ'.ver (j / 2) = σ.ver (j / 2) → σ.get (j / 2) ≠ some .exd → ∀ o, h.get? (μ j) = some o → h'.get? (μ j) = some o

noncomputable abbrev noP : Addr → Prop := fun ζ => False

theorem used_even {σ : St} {i : Nat} (h : i < σ.len) : Used σ (2 * i) := by
  obtain ⟨o, e⟩ := St.get_some h
  exact ⟨o, by rw [show 2 * i / 2 = i by omega]; exact e, .inl (by omega)⟩
theorem used_of_get {σ : St} {i : Nat} {o : O} (h : σ.get i = some o) : Used σ (2 * i) := used_even (St.get_lt h)
theorem used_odd {σ : St} {i : Nat} {o : O} (h : σ.get i = some o) (ht : o.two = true) : Used σ (2 * i + 1) := by
  refine ⟨o, ?_, .inr ht⟩
  rw [show (2 * i + 1) / 2 = i by omega]; exact h

theorem Step.refl (P : Addr → Prop) (μ : Nat → Addr) (σ : St) (h : Heap) : Step P μ σ h μ σ h :=
  ⟨fun ζ o e => ⟨o, e⟩, Nat.le_refl _, fun ζ u => u, fun ζ ζ => rfl, fun ζ u n => absurd u n, fun ζ ζ e ζ ζ => e, fun ζ ζ => Nat.le_refl _, fun ζ ζ ζ => rfl, fun ζ ζ ζ ζ ζ e => e⟩

theorem Step.weaken {P P' : Addr → Prop} {μ μ' : Nat → Addr} {σ σ' : St} {h h' : Heap} (S : Step P μ σ h μ' σ' h') (hp : ∀ b, P b → P' b) : Step P' μ σ h μ' σ' h' :=
  ⟨S.live, S.len, S.mono, S.same, S.fresh, fun b o e t n => S.keep b o e t fun q => n (hp b q), S.vers, S.obj, S.still⟩

theorem Step.trans {P : Addr → Prop} {μ μ' μ'' : Nat → Addr} {σ σ' σ'' : St} {h h' h'' : Heap} (S : Step P μ σ h μ' σ' h') (T : Step P μ' σ' h' μ'' σ'' h'') (_ : True := trivial) : Step P μ σ h μ'' σ'' h'' where
  live := fun b o e => let ⟨o', e'⟩ := S.live b o e; T.live b o' e'
  len := Nat.le_trans S.len T.len
  mono := fun j u => T.mono j (S.mono j u)
  same := fun j u => (T.same j (S.mono j u)).trans (S.same j u)
  fresh := fun j u n => by
    by_cases q : Used σ' j
    · rw [T.same j q]; exact S.fresh j q n
    · have z := T.fresh j u q
      cases e : h.get? (μ'' j) with
      | none => rfl
      | some o => obtain ⟨o', e'⟩ := S.live _ o e; rw [e'] at z; cases z
  keep := fun b o e t n => T.keep b o (S.keep b o e t n) (fun j u => by
    by_cases q : Used σ j
    · rw [S.same j q]; exact t j q
    · have z := S.fresh j u q
      rintro rfl
      rw [z] at e; cases e) n
  vers := fun i hi => Nat.le_trans (S.vers i hi) (T.vers i (Nat.lt_of_lt_of_le hi S.len))
  obj := fun i hi e => by
    have a := S.vers _ hi
    have b := T.vers _ (Nat.lt_of_lt_of_le hi S.len)
    exact (T.obj i (Nat.lt_of_lt_of_le hi S.len) (by omega)).trans (S.obj i hi (by omega))
  still := fun j u e x o g => by
    have hi : j / 2 < σ.len := by obtain ⟨_, g, _⟩ := u; exact St.get_lt g
    have a := S.vers _ hi
    have b := T.vers _ (Nat.lt_of_lt_of_le hi S.len)
    have c := S.still j u (by omega) x o g
    rw [← S.same j u] at c ⊢
    exact T.still j (S.mono j u) (by omega) (by rw [S.obj _ hi (by omega)]; exact x) o c

noncomputable def Frozen (o : Obj) : Prop := (o.cls = .type "tuple" ∧ ∃ xs k, o.data = .seq xs k) ∨ (o.cls = .type "range" ∧ ∃ xs, o.data = .fields xs)

section
variable {c : Cx} {μ μ' : Nat → Addr} {σ σ' : St} {s s' : Shared} {h h' : Heap} {P : Addr → Prop} {n n' : Nat}


theorem DRel.cases {d : Addr} {es : List (V × V)} {C : Prop} (r : DRel c μ n h d es) (K1 : ∀ kvs, h.DictOf (intKind c.prog c.w) d kvs → KvK V.int μ n h es kvs → C) (K2 : ∀ kvs, h.DictOf (strKind c.prog c.w) d kvs → KvK V.str μ n h es kvs → C) (K3 : ∀ kvs, h.DictOfH (tupleKind (intKind c.prog c.w)) d kvs → KvT μ n h es kvs → C) : C := by
  rcases r with ⟨kvs, a, b⟩ | ⟨kvs, a, b⟩ | ⟨kvs, a, b⟩
  · exact K1 kvs a b
  · exact K2 kvs a b
  · exact K3 kvs a b
theorem DictOf.obj {K : Type} [DecidableEq K] {knd : PySem.KeyKind c.prog c.w K} {d : Addr} {kvs : List (K × Value)} : h.DictOf knd d kvs → ∃ o ds k, h.get? d = some o ∧ o.ExactDict ∧ o.data = .dict ds k :=
  Exists.imp fun ζ => Exists.imp fun ζ => Exists.imp fun ζ => And.imp_right (And.imp_right And.left)
theorem DictOfH.obj {K : Type} [DecidableEq K] {knd : PySem.HeapKind c.prog c.w K} {d : Addr} {kvs : List (K × Addr × Value)} : h.DictOfH knd d kvs → ∃ o ds k, h.get? d = some o ∧ o.ExactDict ∧ o.data = .dict ds k :=
  Exists.imp fun ζ => Exists.imp fun ζ => Exists.imp fun ζ => And.imp_right (And.imp_right And.left)
theorem DRel.obj {d : Addr} {es : List (V × V)} (r : DRel c μ n h d es) : ∃ o ds k, h.get? d = some o ∧ o.ExactDict ∧ o.data = .dict ds k :=
  DRel.cases r (fun ζ r ζ => DictOf.obj r) (fun ζ r ζ => DictOf.obj r) fun ζ r ζ => DictOfH.obj r
theorem Value.type_ne {v : Value} {T U : String} (h : v = .type T) (n : T ≠ U) : v ≠ .type U := fun e => n (Value.type.inj (h.symm.trans e))
theorem nf_plain {o : Obj} (h : o.data = .plain) : ¬ Frozen o := fun z => z.elim (fun ⟨_, _, _, e⟩ => nomatch h.symm.trans e) fun ⟨_, _, e⟩ => nomatch h.symm.trans e
theorem nf_dict {o : Obj} {ds : Array DictEntry} {k : Nat} (h : o.data = .dict ds k) : ¬ Frozen o := fun z => z.elim (fun ⟨_, _, _, e⟩ => nomatch h.symm.trans e) fun ⟨_, _, e⟩ => nomatch h.symm.trans e
theorem nf_type {o : Obj} {T : String} (h : o.cls = .type T) (h1 : T ≠ "tuple") (h2 : T ≠ "range") : ¬ Frozen o := fun z => z.elim (fun z => h1 (Value.type.inj (h.symm.trans z.1))) fun z => h2 (Value.type.inj (h.symm.trans z.1))
theorem nf_ref {o : Obj} {a : Addr} (h : o.cls = .ref a) : ¬ Frozen o := fun z => z.elim (fun z => nomatch h.symm.trans z.1) fun z => nomatch h.symm.trans z.1
theorem ORel.slot {i : Nat} {o : O} (r : ORel c μ n h i o) : ∃ o, h.get? (μ (2 * i)) = some o ∧ ¬ Frozen o := by
  cases o with
  | list l => obtain ⟨xs, k, q, _⟩ := r; exact ⟨_, q, nf_type rfl (by decide) (by decide)⟩
  | dict l => obtain ⟨o, ds, k, q, _, q2⟩ := DRel.obj r.1; exact ⟨_, q, nf_dict q2⟩
  | inst cl fs => exact ⟨_, r.1, nf_ref rfl⟩
  | exc b => obtain ⟨_, _, _, _, q, _⟩ := r; exact ⟨_, q, nf_ref rfl⟩
  | exd => obtain ⟨o, _, q, q2, _⟩ := r; exact ⟨_, q, nf_ref q2⟩
theorem ORel.slot2 {i : Nat} {o : O} (ht : o.two = true) (r : ORel c μ n h i o) : ∃ o, h.get? (μ (2 * i + 1)) = some o ∧ ¬ Frozen o := by
  cases o with
  | list l => exact nomatch ht
  | dict l => exact nomatch ht
  | inst cl fs => obtain ⟨_, _, _, q, _⟩ := r; exact ⟨_, q, nf_dict rfl⟩
  | exc b => obtain ⟨_, _, _, _, _, _, q, _⟩ := r; exact ⟨_, q, nf_dict rfl⟩
  | exd => obtain ⟨_, o, _, _, q, q2⟩ := r; exact ⟨_, q, nf_type q2 (by decide) (by decide)⟩
theorem even_half {j : Nat} (e : j % 2 = 0) : 2 * (j / 2) = j := by omega
theorem odd_half {j : Nat} (e : ¬ j % 2 = 0) : 2 * (j / 2) + 1 = j := by omega
/- every tracked address bears an object that is no tuple, no range -/
theorem Rel.slot (R : Rel c μ σ s) {j : Nat} (u : Used σ j) : ∃ o, s.heap.get? (μ j) = some o ∧ ¬ Frozen o := by
  obtain ⟨o, g, k⟩ := u
  by_cases e : j % 2 = 0
  · have := ORel.slot (R.obj _ _ g)
    rw [even_half e] at this
    exact this
  · have := ORel.slot2 (k.resolve_left e) (R.obj _ _ g)
    rw [odd_half e] at this
    exact this

theorem Rel.slot_lt (R : Rel c μ σ s) {j : Nat} (u : Used σ j) : μ j < s.heap.objs.size := by
  obtain ⟨o, e, _⟩ := R.slot u; exact Heap.lt_size e
theorem Rel.slot_get (R : Rel c μ σ s) {j : Nat} (u : Used σ j) : ∃ o, s.heap.get? (μ j) = some o := let ⟨o, e, _⟩ := R.slot u; ⟨o, e⟩

/- what a heap must keep for values to stay: tuples and ranges -/
structure TKeep (h h' : Heap) : Prop where
  keep : ∀ a o, h.get? a = some o → Frozen o → h'.get? a = some o
theorem TKeep.of_keeps (k : ∀ b o, h.get? b = some o → h'.get? b = some o) : TKeep h h' := ⟨fun a o e ζ => k a o e⟩
theorem TKeep.of_sameBut {a : Addr} {o : Obj} (hs : Heap.SameBut a h h') (e : h.get? a = some o) (h1 : ¬ Frozen o) : TKeep h h' :=
  ⟨fun b ob eb k => (hs.2 b (by rintro rfl; rw [e] at eb; cases eb; exact h1 k)).trans eb⟩

@[elab_as_elim] theorem nil_rel {vs' : List Value} {P : List Value → Prop} (r : VsRel μ n h [] vs') (K : P []) : P vs' := (show vs' = [] from r) ▸ K
@[elab_as_elim] theorem cons_rel {y : V} {vs : List V} {vs' : List Value} {P : List Value → Prop} (r : VsRel μ n h (y :: vs) vs') (K : ∀ w ws, VRel μ n h y w → VsRel μ n h vs ws → P (w :: ws)) : P vs' := by
  obtain ⟨w, ws, rfl, h1, h2⟩ := r
  exact K w ws h1 h2
theorem rel_cons {y : V} {w : Value} {vs : List V} {ws : List Value} (a : VRel μ n h y w) (b : VsRel μ n h vs ws) : VsRel μ n h (y :: vs) (w :: ws) := ⟨w, ws, rfl, a, b⟩
@[elab_as_elim] theorem kvk_cons {K : Type} {enc : K → V} {k v : V} {es : List (V × V)} {P : V → List (K × Value) → Prop} {kvs : List (K × Value)} (r : KvK enc μ n h ((k, v) :: es) kvs) (f : ∀ a w q, VRel μ n h v w → KvK enc μ n h es q → P (enc a) ((a, w) :: q)) : P k kvs := by
  obtain ⟨a, w, q, rfl, rfl, d, r⟩ := r
  exact f a w q d r
@[elab_as_elim] theorem kvt_cons {k v : V} {es : List (V × V)} {P : V → List (List Int × Addr × Value) → Prop} {kvs : List (List Int × Addr × Value)} (r : KvT μ n h ((k, v) :: es) kvs) (f : ∀ i j a w q, VRel μ n h v w → KvT μ n h es q → P (.tup [.int i, .int j]) (([i, j], a, w) :: q)) : P k kvs := by
  obtain ⟨i, j, a, w, q, rfl, rfl, d, r⟩ := r
  exact f i j a w q d r
@[elab_as_elim] theorem fs_cons {m : Nat} {v : V} {fs : List (Nat × V)} {P : List DictEntry → Prop} {ds : List DictEntry} (r : FsRel c μ n h ((m, v) :: fs) ds) (K : ∀ e es t, e.key = .str (atName m) t → e.hash = PyData.keyHash c.w.params (atName m) → m < 33 → VRel μ n h v e.val → FsRel c μ n h fs es → P (e :: es)) : P ds := by
  obtain ⟨e, es, t, rfl, a, b, d, v, r⟩ := r
  exact K e es t a b d v r
mutual
theorem VRel.mono (hn : n ≤ n') (he : ∀ i < n, μ' (2 * i) = μ (2 * i)) (k : TKeep h h') : ∀ {x : V} {v : Value}, VRel μ n h x v → VRel μ' n' h' x v
  | .none, _, r => r
  | .bool _, _, r => r
  | .int _, _, r => r
  | .str _, _, r => r
  | .tup l, _, r => by
    obtain ⟨a, xs, j, e, g, r⟩ := r
    exact ⟨a, xs, j, e, k.keep _ _ g (.inl ⟨rfl, _, _, rfl⟩), VsRel.mono hn he k r⟩
  | .obj i, _, r => ⟨Nat.lt_of_lt_of_le r.1 hn, by rw [he i r.1]; exact r.2⟩
  | .rng a b, _, r => by
    obtain ⟨r, t, u, z, e, g, q⟩ := r
    exact ⟨r, t, u, z, e, k.keep _ _ g (.inr ⟨rfl, _, rfl⟩), q⟩
theorem VsRel.mono (hn : n ≤ n') (he : ∀ i < n, μ' (2 * i) = μ (2 * i)) (k : TKeep h h') : ∀ {x : List V} {v : List Value}, VsRel μ n h x v → VsRel μ' n' h' x v
  | [], _, r => r
  | _ :: _, _, r => cons_rel r fun ζ ζ a b => rel_cons (VRel.mono hn he k a) (VsRel.mono hn he k b)
end

theorem KvK.mono {K : Type} {enc : K → V} (hn : n ≤ n') (he : ∀ i < n, μ' (2 * i) = μ (2 * i)) (k : TKeep h h') {es : List (V × V)} : ∀ {ds : List (K × Value)}, KvK enc μ n h es ds → KvK enc μ' n' h' es ds := by
  induction es with
  | nil => exact fun r => r
  | cons e es ih => exact fun r => kvk_cons (P := fun k ds => KvK enc μ' n' h' ((k, e.2) :: es) ds) r fun a w q d r => ⟨a, w, q, rfl, rfl, VRel.mono hn he k d, ih r⟩
theorem KvT.mono (hn : n ≤ n') (he : ∀ i < n, μ' (2 * i) = μ (2 * i)) (k : TKeep h h') {es : List (V × V)} : ∀ {ds : List (List Int × Addr × Value)}, KvT μ n h es ds → KvT μ' n' h' es ds := by
  induction es with
  | nil => exact fun r => r
  | cons e es ih => exact fun r => kvt_cons (P := fun k ds => KvT μ' n' h' ((k, e.2) :: es) ds) r fun i j a w q d r => ⟨i, j, a, w, q, rfl, rfl, VRel.mono hn he k d, ih r⟩
theorem tupK_keep {K : Type} [DecidableEq K] {knd : PySem.KeyKind c.prog c.w K} {x : List K} {a : Addr} (k : TKeep h h') (r : (tupleKind knd).is h x a) : (tupleKind knd).is h' x a := by
  obtain ⟨ot, items, m, h1, h2, h3, h4⟩ := r
  exact ⟨ot, items, m, k.keep _ _ h1 (.inl ⟨h2, _, _, h3⟩), h2, h3, h4⟩
theorem DictOfH.keep {K : Type} [DecidableEq K] {knd : PySem.HeapKind c.prog c.w K} {d : Addr} {kvs : List (K × Addr × Value)} (k : ∀ {x a}, knd.is h x a → knd.is h' x a) (kd : ∀ o, h.get? d = some o → h'.get? d = some o) : h.DictOfH knd d kvs → h'.DictOfH knd d kvs :=
  Exists.imp fun o => Exists.imp fun ζ => Exists.imp fun ζ => And.imp (kd o) (And.imp_right (And.imp_right (And.imp_right (And.imp_left fun r x hx => k (r x hx)))))
theorem DRel.mono {d : Addr} {es : List (V × V)} (hn : n ≤ n') (he : ∀ i < n, μ' (2 * i) = μ (2 * i)) (k : TKeep h h') (kd : ∀ o, h.get? d = some o → h'.get? d = some o) (r : DRel c μ n h d es) : DRel c μ' n' h' d es :=
  DRel.cases r (fun kvs r q => .inl ⟨kvs, Heap.DictOf.at r kd, q.mono hn he k⟩) (fun kvs r q => .inr (.inl ⟨kvs, Heap.DictOf.at r kd, q.mono hn he k⟩)) fun kvs r q => .inr (.inr ⟨kvs, DictOfH.keep (tupK_keep k) kd r, q.mono hn he k⟩)
theorem FsRel.mono (hn : n ≤ n') (he : ∀ i < n, μ' (2 * i) = μ (2 * i)) (k : TKeep h h') {es : List (Nat × V)} : ∀ {ds : List DictEntry}, FsRel c μ n h es ds → FsRel c μ' n' h' es ds := by
  induction es with
  | nil => exact fun r => r
  | cons e es ih => exact fun r => fs_cons r fun e es t a b d v r => ⟨e, es, t, rfl, a, b, d, VRel.mono hn he k v, ih r⟩

theorem Step.even (S : Step P μ σ h μ' σ' h') : ∀ i < σ.len, μ' (2 * i) = μ (2 * i) := fun ζ l => S.same _ (used_even l)

theorem Step.tkeep (R : Rel c μ σ s) (S : Step P μ σ s.heap μ' σ' h') (hP : ∀ b o, P b → s.heap.get? b = some o → ¬ Frozen o) : TKeep s.heap h' := by
  refine ⟨fun a o e k => S.keep a o e (fun j u q => ?_) fun p => hP a o p e k⟩
  obtain ⟨o', e', n1⟩ := R.slot u
  rw [q, e] at e'
  cases e'
  exact n1 k
theorem Step.tkeep0 (R : Rel c μ σ s) (S : Step noP μ σ s.heap μ' σ' h') : TKeep s.heap h' := S.tkeep R fun ζ ζ p => p.elim

theorem VRel.step (R : Rel c μ σ s) (S : Step noP μ σ s.heap μ' σ' h') {x : V} {v : Value} (r : VRel μ σ.len s.heap x v) : VRel μ' σ'.len h' x v := VRel.mono S.len S.even (S.tkeep0 R) r
theorem VsRel.step (R : Rel c μ σ s) (S : Step noP μ σ s.heap μ' σ' h') {x : List V} {v : List Value} (r : VsRel μ σ.len s.heap x v) : VsRel μ' σ'.len h' x v := VsRel.mono S.len S.even (S.tkeep0 R) r

theorem VsRel.length {l : List V} : ∀ {vs : List Value}, VsRel μ n h l vs → vs.length = l.length := by
  induction l with
  | nil => exact fun r => nil_rel r rfl
  | cons x l ih => exact fun r => cons_rel (P := fun vs => vs.length = l.length + 1) r fun ζ ζ ζ r => congrArg (· + 1) (ih r)
theorem VsRel.get {l : List V} : ∀ {vs : List Value}, VsRel μ n h l vs → ∀ {j : Nat} {x : V}, l[j]? = some x → ∃ v, vs[j]? = some v ∧ VRel μ n h x v := by
  induction l with
  | nil => exact fun ζ ζ ζ q => nomatch q
  | cons y l ih =>
    intro vs r j x q
    refine cons_rel r fun w ws a r => ?_
    cases j with
    | zero => exact ⟨w, rfl, (Option.some.inj q : y = x) ▸ a⟩
    | succ j => exact ih r (j := j) q
theorem VsRel.append {l m : List V} {vs ws : List Value} (r : VsRel μ n h l vs) (q : VsRel μ n h m ws) : VsRel μ n h (l ++ m) (vs ++ ws) := by
  induction l generalizing vs with
  | nil => exact nil_rel r q
  | cons y l ih => exact cons_rel r fun ζ ζ a r => rel_cons a (ih r)
theorem VsRel.one {x : V} {v : Value} (r : VRel μ n h x v) : VsRel μ n h [x] [v] := ⟨v, [], rfl, r, rfl⟩
theorem VsRel.take {l : List V} : ∀ {vs : List Value} (k : Nat), VsRel μ n h l vs → VsRel μ n h (l.take k) (vs.take k) := by
  induction l with
  | nil =>
    intro vs k r
    refine nil_rel r ?_
    rw [List.take_nil, List.take_nil]; rfl
  | cons y l ih =>
    intro vs k r
    cases k with
    | zero => exact rfl
    | succ k => exact cons_rel r fun ζ ζ a r => rel_cons a (ih k r)
theorem VsRel.set {l : List V} : ∀ {vs : List Value} (k : Nat) {x : V} {v : Value}, VsRel μ n h l vs → VRel μ n h x v → VsRel μ n h (l.set k x) (vs.set k v) := by
  induction l with
  | nil =>
    intro vs k x v r _
    exact nil_rel r rfl
  | cons y l ih =>
    intro vs k x v r q
    refine cons_rel r fun ζ ζ a r => ?_
    cases k with
    | zero => exact rel_cons q r
    | succ k => exact rel_cons a (ih k r q)
end
end Mine.Internal
end
section
open PySem PySem.W PySem.Calls PyProof.Rows
namespace Mine.Internal
section
variable {c : Cx} {μ μ' : Nat → Addr} {σ σ' : St} {s s' : Shared} {h h' : Heap} {P : Addr → Prop} {n n' : Nat}

theorem ORel.mono {i : Nat} {o : O} (hn : n ≤ n') (he : ∀ i < n, μ' (2 * i) = μ (2 * i)) (k : TKeep h h') (e0 : μ' (2 * i) = μ (2 * i)) (k0 : ∀ ob, h.get? (μ (2 * i)) = some ob → h'.get? (μ (2 * i)) = some ob)
    (e1 : o.two = true → μ' (2 * i + 1) = μ (2 * i + 1)) (k1 : o.two = true → ∀ ob, h.get? (μ (2 * i + 1)) = some ob → h'.get? (μ (2 * i + 1)) = some ob) (r : ORel c μ n h i o) : ORel c μ' n' h' i o := by
  cases o with
  | list l => obtain ⟨xs, j, q, r⟩ := r; exact ⟨xs, j, by rw [e0]; exact k0 _ q, r.mono hn he k⟩
  | dict l => show DRel c μ' n' h' (μ' (2 * i)) l ∧ _; rw [e0]; exact ⟨DRel.mono hn he k k0 r.1, r.2⟩
  | inst cl fs => obtain ⟨q, ds, j, q2, r, t⟩ := r; exact ⟨by rw [e0, e1 rfl]; exact k0 _ q, ds, j, by rw [e1 rfl]; exact k1 rfl _ q2, r.mono hn he k, t⟩
  | exc b => obtain ⟨t, a0, ds, j, q, q1, q2, r⟩ := r; exact ⟨t, a0, ds, j, by rw [e0, e1 rfl]; exact k0 _ q, k.keep _ _ q1 (.inl ⟨rfl, _, _, rfl⟩), by rw [e1 rfl]; exact k1 rfl _ q2, r.mono hn he k⟩
  | exd => obtain ⟨o, o', q, q1, q2, q3⟩ := r; exact ⟨o, o', by rw [e0]; exact k0 _ q, q1, by rw [e1 rfl]; exact k1 rfl _ q2, q3⟩

/- a heap that only grows: nothing of ours turns -/
theorem Rel.grow (R : Rel c μ σ s) (k : ∀ b o, s.heap.get? b = some o → h'.get? b = some o) {tk : Nat} : Rel c μ σ { s with heap := h', toks := tk } where
  keep := fun b o e => k b o (R.keep b o e)
  gens := R.gens
  os := R.os
  news := R.news
  inj := R.inj
  obj := fun i o g => (R.obj i o g).mono (Nat.le_refl _) (fun ζ ζ => rfl) (TKeep.of_keeps k) rfl (fun ob e => k _ _ e) (fun ζ => rfl) (fun ζ ob e => k _ _ e)
theorem Step.grow (k : ∀ b o, h.get? b = some o → h'.get? b = some o) : Step P μ σ h μ σ h' :=
  ⟨fun b o e => ⟨o, k b o e⟩, Nat.le_refl _, fun ζ u => u, fun ζ ζ => rfl, fun ζ u n => absurd u n, fun b o e ζ ζ => k b o e, fun ζ ζ => Nat.le_refl _, fun ζ ζ ζ => rfl, fun ζ ζ ζ ζ o e => k _ o e⟩
theorem Rel.tok (R : Rel c μ σ s) {tk : Nat} : Rel c μ σ { s with toks := tk } := R.grow (fun ζ ζ e => e)

/- an address that is no tracked one and no base's turns -/
theorem Rel.other (R : Rel c μ σ s) {a : Addr} (ha : ∀ j, Used σ j → μ j ≠ a) (hB : c.B.get? a = none) (hs : ∀ b o, b ≠ a → s.heap.get? b = some o → h'.get? b = some o) (k : TKeep s.heap h') {tk : Nat} : Rel c μ σ { s with heap := h', toks := tk } where
  keep := fun b o e => hs b o (fun q => by rw [q, hB] at e; cases e) (R.keep b o e)
  gens := R.gens
  os := R.os
  news := R.news
  inj := R.inj
  obj := fun i o g => (R.obj i o g).mono (Nat.le_refl _) (fun ζ ζ => rfl) k rfl (fun ob e => hs _ _ (ha _ (used_of_get g)) e) (fun ζ => rfl) (fun t ob e => hs _ _ (ha _ (used_odd g t)) e)

theorem ORel.live {i : Nat} {o : O} (r : ORel c μ n h i o) : ∃ ob, h.get? (μ (2 * i)) = some ob := let ⟨o, e, _⟩ := r.slot; ⟨o, e⟩
theorem ORel.live2 {i : Nat} {o : O} (ht : o.two = true) (r : ORel c μ n h i o) : ∃ ob, h.get? (μ (2 * i + 1)) = some ob := let ⟨o, e, _⟩ := r.slot2 ht; ⟨o, e⟩

theorem used_put {i : Nat} {o o' : O} (g : σ.get i = some o) (ht : o'.two = o.two) {j : Nat} : Used (σ.put i o') j ↔ Used σ j := by
  unfold Used
  rw [St.get_put]
  by_cases e : i = j / 2
  · subst e
    rw [if_pos rfl, if_pos (St.get_lt g), g]
    constructor
    · rintro ⟨x, hx, k⟩; cases hx; exact ⟨o, rfl, by rw [← ht]; exact k⟩
    · rintro ⟨x, hx, k⟩; cases hx; exact ⟨o', rfl, by rw [ht]; exact k⟩
  · rw [if_neg e]

set_option tactic.hygienic true in
/- one object turns in place -/
theorem Rel.put (R : Rel c μ σ s) {i : Nat} {o o' : O} (g : σ.get i = some o) (ht : o'.two = o.two) {a : Addr} (ha : a = μ (2 * i) ∨ (a = μ (2 * i + 1) ∧ o.two = true)) (hs : Heap.SameBut a s.heap h')
    (hnew : ORel c μ σ.len h' i o') {tk : Nat} : Rel c μ (σ.put i o') { s with heap := h', toks := tk } ∧ Step noP μ σ s.heap μ (σ.put i o') h' := by
  obtain ⟨ja, uja, hja, hj2⟩ : ∃ j, Used σ j ∧ μ j = a ∧ j / 2 = i := by
    rcases ha with e | ⟨e, t⟩
    · exact ⟨2 * i, used_of_get g, e.symm, by omega⟩
    · exact ⟨2 * i + 1, used_odd g t, e.symm, by omega⟩
  have k : TKeep s.heap h' := by
    obtain ⟨ob, e, n1⟩ := R.slot uja
    rw [hja] at e
    exact TKeep.of_sameBut hs e n1
  have off : ∀ j, Used σ j → j / 2 ≠ i → μ j ≠ a := fun j u q e => q (by rw [← hj2, R.inj _ _ u uja (e.trans hja.symm)])
  refine ⟨⟨?_, R.gens, R.os, fun j u => R.news j ((used_put g ht).mp u), fun x y ux uy => R.inj x y ((used_put g ht).mp ux) ((used_put g ht).mp uy), ?_⟩, ?_⟩
  · intro b ob e
    refine (hs.2 b ?_).trans (R.keep b ob e)
    rintro rfl
    have := R.news _ uja
    rw [hja, e] at this
    cases this
  · intro j oj gj
    rw [St.get_put] at gj
    rw [St.len_put]
    by_cases e : i = j
    · subst e
      rw [if_pos rfl, if_pos (St.get_lt g)] at gj
      cases gj
      exact hnew
    · rw [if_neg e] at gj
      refine (R.obj j oj gj).mono (Nat.le_refl _) (fun ζ ζ => rfl) k rfl (fun ob eb => (hs.2 _ (off _ (used_of_get gj) (by omega))).trans eb) (fun ζ => rfl) (fun t ob eb => (hs.2 _ (off _ (used_odd gj t) (by omega))).trans eb)
  · refine ⟨fun b ob e => ?_, by rw [St.len_put]; exact Nat.le_refl _, fun j u => (used_put g ht).mpr u, fun ζ ζ => rfl, fun j u q => absurd ((used_put g ht).mp u) q, fun b ob e t ζ => (hs.2 b ?_).trans e, fun x hx => ?_, fun x hx e => ?_, fun j u e ζ ob g' => ?_⟩
    · by_cases q : b = a
      · subst q
        have : ∃ ob', h'.get? (μ ja) = some ob' := by
          by_cases z : ja % 2 = 0
          · have e2 : ja = 2 * i := by omega
            rw [e2]
            exact ORel.live hnew
          · have e2 : ja = 2 * i + 1 := by omega
            rw [e2]
            refine ORel.live2 ?_ hnew
            rw [ht]
            obtain ⟨oo, g1, g2⟩ := uja
            rw [hj2, g] at g1
            cases g1
            exact g2.resolve_left z
        rw [hja] at this
        exact this
      · exact ⟨ob, (hs.2 b q).trans e⟩
    · rintro rfl
      exact t _ uja hja
    · rw [St.ver_put _ _ _ hx]; split <;> omega
    · rw [St.ver_put _ _ _ hx] at e
      rw [St.get_put]
      split at e
      · omega
      · rename_i ne; rw [if_neg ne]
    · have hx : j / 2 < σ.len := by obtain ⟨_, g, _⟩ := u; exact St.get_lt g
      rw [St.ver_put _ _ _ hx] at e
      split at e
      · omega
      · rename_i ne
        exact (hs.2 _ (off j u fun q => ne q.symm)).trans g'

/- the numbering with one more -/
noncomputable def ext (μ : Nat → Addr) (n : Nat) (a d : Addr) : Nat → Addr := fun j => if j = 2 * n then a else if j = 2 * n + 1 then d else μ j
theorem ext_even {a d : Addr} : ext μ n a d (2 * n) = a := if_pos rfl
theorem ext_odd {a d : Addr} : ext μ n a d (2 * n + 1) = d := by unfold ext; rw [if_neg (by omega), if_pos rfl]
theorem ext_lt {a d : Addr} {j : Nat} (hj : j < 2 * n) : ext μ n a d j = μ j := by unfold ext; rw [if_neg (by omega), if_neg (by omega)]
theorem used_lt {j : Nat} (u : Used σ j) : j < 2 * σ.len := by
  obtain ⟨o, g, _⟩ := u
  have := St.get_lt g
  omega
theorem used_add {o : O} {j : Nat} : Used (σ.add o) j ↔ Used σ j ∨ j = 2 * σ.len ∨ (j = 2 * σ.len + 1 ∧ o.two = true) := by
  unfold Used
  rw [St.get_add]
  by_cases e : j / 2 = σ.len
  · rw [if_pos e]
    constructor
    · rintro ⟨x, hx, k⟩
      cases hx
      rcases k with k | k
      · exact .inr (.inl (by omega))
      · by_cases q : j % 2 = 0
        · exact .inr (.inl (by omega))
        · exact .inr (.inr ⟨by omega, k⟩)
    · rintro (⟨x, hx, k⟩ | k | ⟨k, t⟩)
      · have := St.get_lt hx; omega
      · exact ⟨o, rfl, .inl (by omega)⟩
      · exact ⟨o, rfl, .inr t⟩
  · rw [if_neg e]
    constructor
    · exact .inl
    · rintro (q | k | ⟨k, _⟩)
      · exact q
      · omega
      · omega

/- one object more -/
theorem Rel.add (R : Rel c μ σ s) {o : O} {a d : Addr} (k : ∀ b ob, s.heap.get? b = some ob → h'.get? b = some ob) (ha : s.heap.get? a = none) (hd : o.two = true → s.heap.get? d = none ∧ a ≠ d)
    (hnew : ORel c (ext μ σ.len a d) (σ.len + 1) h' σ.len o) {tk : Nat} : Rel c (ext μ σ.len a d) (σ.add o) { s with heap := h', toks := tk } ∧ Step noP μ σ s.heap (ext μ σ.len a d) (σ.add o) h' := by
  have old : ∀ j, Used σ j → ext μ σ.len a d j = μ j := fun j u => ext_lt (used_lt u)
  have lt : ∀ j, Used σ j → ∀ b, s.heap.get? b = none → μ j ≠ b := fun j u b e q => by obtain ⟨o, e', _⟩ := R.slot u; rw [q, e] at e'; cases e'
  have nb : ∀ b, s.heap.get? b = none → c.B.get? b = none := fun b e => by
    cases q : c.B.get? b with
    | none => rfl
    | some o => rw [R.keep b o q] at e; cases e
  refine ⟨⟨fun b ob e => k b ob (R.keep b ob e), R.gens, R.os, ?_, ?_, ?_⟩, ⟨fun b ob e => ⟨ob, k b ob e⟩, by rw [St.len_add]; omega, fun j u => used_add.mpr (.inl u), old, ?_, fun b ob e ζ ζ => k b ob e, fun x hx => by rw [St.ver_add _ _ hx]; exact Nat.le_refl _, fun x hx ζ => by rw [St.get_add, if_neg (Nat.ne_of_lt hx)], fun j u ζ ζ o e => k _ o e⟩⟩
  · intro j u
    rcases used_add.mp u with u | rfl | ⟨rfl, t⟩
    · rw [old j u]; exact R.news j u
    · rw [ext_even]; exact nb _ ha
    · rw [ext_odd]; exact nb _ (hd t).1
  · intro x y ux uy e
    rcases used_add.mp ux with ux | rfl | ⟨rfl, tx⟩ <;> rcases used_add.mp uy with uy | rfl | ⟨rfl, ty⟩
    · rw [old x ux, old y uy] at e; exact R.inj x y ux uy e
    · rw [old x ux, ext_even] at e; exact absurd e (lt x ux _ ha)
    · rw [old x ux, ext_odd] at e; exact absurd e (lt x ux _ (hd ty).1)
    · rw [old y uy, ext_even] at e; exact absurd e.symm (lt y uy _ ha)
    · rfl
    · rw [ext_even, ext_odd] at e; exact absurd e (hd ty).2
    · rw [old y uy, ext_odd] at e; exact absurd e.symm (lt y uy _ (hd tx).1)
    · rw [ext_even, ext_odd] at e; exact absurd e.symm (hd tx).2
    · rfl
  · intro j oj gj
    rw [St.get_add] at gj
    rw [St.len_add]
    by_cases e : j = σ.len
    · rw [if_pos e] at gj; cases gj; subst e; exact hnew
    · rw [if_neg e] at gj
      have l := St.get_lt gj
      exact (R.obj j oj gj).mono (Nat.le_succ _) (fun i hi => ext_lt (by omega)) (TKeep.of_keeps k) (ext_lt (by omega)) (fun ob eb => k _ _ eb) (fun ζ => ext_lt (by omega)) (fun ζ ob eb => k _ _ eb)
  · intro j u nu
    rcases used_add.mp u with u | rfl | ⟨rfl, t⟩
    · exact absurd u nu
    · rw [ext_even]; exact ha
    · rw [ext_odd]; exact (hd t).1
end
end Mine.Internal
end
section
open PySem PySem.W PySem.Calls PyProof.Rows
namespace Mine.Internal

theorem no_some {α : Type} {a : α} {P : Prop} (h : (none : Option α) = some a) : P := nomatch h
theorem no_true {P : Prop} (h : false = true) : P := nomatch h
theorem oany_of {α : Type} {p : α → Bool} {o : Option α} (h : o.any p = true) : ∃ a, o = some a ∧ p a = true := by
  cases o with
  | none => exact no_true h
  | some a => exact ⟨a, rfl, h⟩
theorem band_of {a b : Bool} (h : (a && b) = true) : a = true ∧ b = true := Bool.and_eq_true_iff.mp h
theorem bnot_of {a : Bool} (h : (!a) = true) : a = false := by cases a <;> trivial

theorem bdite {c : Prop} [i : Decidable c] {f : c → Bool} {C : Prop} (h : (if k : c then f k else false) = true) (K : ∀ k : c, f k = true → C) : C := by
  cases i with
  | isTrue k => exact K k h
  | isFalse k => exact no_true h
theorem oany {α : Type} {p : α → Bool} {o : Option α} {C : Prop} (h : o.any p = true) (K : ∀ a, o = some a → p a = true → C) : C := by
  cases o with
  | none => exact no_true h
  | some a => exact K a rfl h
theorem band2 {a b : Bool} {C : Prop} (h : (a && b) = true) (K : a = true → b = true → C) : C := K (band_of h).1 (band_of h).2
theorem band3 {a b c : Bool} {C : Prop} (h : (a && b && c) = true) (K : a = true → b = true → c = true → C) : C := band2 h fun h => band2 h K
theorem band4 {a b c d : Bool} {C : Prop} (h : (a && b && c && d) = true) (K : a = true → b = true → c = true → d = true → C) : C := band2 h fun h => band3 h K
theorem band5 {a b c d e : Bool} {C : Prop} (h : (a && b && c && d && e) = true) (K : a = true → b = true → c = true → d = true → e = true → C) : C := band2 h fun h => band4 h K
theorem band6 {a b c d e f : Bool} {C : Prop} (h : (a && b && c && d && e && f) = true) (K : a = true → b = true → c = true → d = true → e = true → f = true → C) : C := band2 h fun h => band5 h K
theorem band7 {a b c d e f g : Bool} {C : Prop} (h : (a && b && c && d && e && f && g) = true) (K : a = true → b = true → c = true → d = true → e = true → f = true → g = true → C) : C := band2 h fun h => band6 h K
theorem sinj {α : Type} {a b : α} (h : some a = some b) : a = b := Option.some.inj h
noncomputable def one {α : Type} : List α → Option α | [a] => some a | _ => none
theorem one_eq {α : Type} {l : List α} {a : α} (h : one l = some a) : l = [a] := by
  cases l with
  | nil => exact no_some h
  | cons x l => cases l with
    | nil => exact congrArg (fun x => [x]) (sinj h)
    | cons _ _ => exact no_some h
noncomputable def two {α : Type} : List α → Option (α × α) | [a, b] => some (a, b) | _ => none
theorem two_eq {α : Type} {l : List α} {a : α × α} (h : two l = some a) : l = [a.1, a.2] := by
  cases l with
  | nil => exact no_some h
  | cons x l => cases l with
    | nil => exact no_some h
    | cons y l => cases l with
      | nil => exact congrArg (fun a : α × α => [a.1, a.2]) (sinj h)
      | cons _ _ => exact no_some h
theorem emp {α : Type} {l : List α} (h : l.isEmpty = true) : l = [] := List.isEmpty_iff.mp h
theorem ctrue {c : Prop} [Decidable c] (h : decide c = true) : c := of_decide_eq_true h
theorem beqt {α : Type} [BEq α] [LawfulBEq α] {a b : α} (h : (a == b) = true) : a = b := beq_iff_eq.mp h

/-! the shapes of expressions: a test on each -/
noncomputable def tConst (e : Expr) (f : Const → Nat → Pos → Bool) : Bool := if h : e.ctorIdx = 19 then Expr.Constant.elim e h f else false
theorem tConst_inv {e : Expr} {f : Const → Nat → Pos → Bool} {C : Prop} (h : tConst e f = true) (K : ∀ c k p, e = .Constant c k p → f c k p = true → C) : C :=
  bdite h fun k h => Expr.Constant.elim (motive_1 := fun e' => ∀ k : e'.ctorIdx = 19, e = e' → Expr.Constant.elim e' k f = true → C) e k (fun c k p ζ => K c k p) k rfl h
noncomputable def tName (e : Expr) (f : Str → Pos → Bool) : Bool := if h : e.ctorIdx = 23 then Expr.Name.elim e h f else false
theorem tName_inv {e : Expr} {f : Str → Pos → Bool} {C : Prop} (h : tName e f = true) (K : ∀ x p, e = .Name x p → f x p = true → C) : C :=
  bdite h fun k h => Expr.Name.elim (motive_1 := fun e' => ∀ k : e'.ctorIdx = 23, e = e' → Expr.Name.elim e' k f = true → C) e k (fun x p ζ => K x p) k rfl h
noncomputable def tUn (e : Expr) (f : UnaryOp → Expr → Pos → Bool) : Bool := if h : e.ctorIdx = 3 then Expr.UnaryOp.elim e h f else false
theorem tUn_inv {e : Expr} {f : UnaryOp → Expr → Pos → Bool} {C : Prop} (h : tUn e f = true) (K : ∀ o x p, e = .UnaryOp o x p → f o x p = true → C) : C :=
  bdite h fun k h => Expr.UnaryOp.elim (motive_1 := fun e' => ∀ k : e'.ctorIdx = 3, e = e' → Expr.UnaryOp.elim e' k f = true → C) e k (fun o x p ζ => K o x p) k rfl h
noncomputable def tBin (e : Expr) (f : Expr → Operator → Expr → Pos → Bool) : Bool := if h : e.ctorIdx = 2 then Expr.BinOp.elim e h f else false
theorem tBin_inv {e : Expr} {f : Expr → Operator → Expr → Pos → Bool} {C : Prop} (h : tBin e f = true) (K : ∀ a o b p, e = .BinOp a o b p → f a o b p = true → C) : C :=
  bdite h fun k h => Expr.BinOp.elim (motive_1 := fun e' => ∀ k : e'.ctorIdx = 2, e = e' → Expr.BinOp.elim e' k f = true → C) e k (fun a o b p ζ => K a o b p) k rfl h
noncomputable def tCmp (e : Expr) (f : Expr → List CmpOp → List Expr → Pos → Bool) : Bool := if h : e.ctorIdx = 15 then Expr.Compare.elim e h f else false
theorem tCmp_inv {e : Expr} {f : Expr → List CmpOp → List Expr → Pos → Bool} {C : Prop} (h : tCmp e f = true) (K : ∀ a os bs p, e = .Compare a os bs p → f a os bs p = true → C) : C :=
  bdite h fun k h => Expr.Compare.elim (motive_1 := fun e' => ∀ k : e'.ctorIdx = 15, e = e' → Expr.Compare.elim e' k f = true → C) e k (fun a os bs p ζ => K a os bs p) k rfl h
noncomputable def tBool (e : Expr) (f : BoolOp → List Expr → Pos → Bool) : Bool := if h : e.ctorIdx = 0 then Expr.BoolOp.elim e h f else false
theorem tBool_inv {e : Expr} {f : BoolOp → List Expr → Pos → Bool} {C : Prop} (h : tBool e f = true) (K : ∀ o l p, e = .BoolOp o l p → f o l p = true → C) : C :=
  bdite h fun k h => Expr.BoolOp.elim (motive_1 := fun e' => ∀ k : e'.ctorIdx = 0, e = e' → Expr.BoolOp.elim e' k f = true → C) e k (fun o l p ζ => K o l p) k rfl h
noncomputable def tIf (e : Expr) (f : Expr → Expr → Expr → Pos → Bool) : Bool := if h : e.ctorIdx = 5 then Expr.IfExp.elim e h f else false
theorem tIf_inv {e : Expr} {f : Expr → Expr → Expr → Pos → Bool} {C : Prop} (h : tIf e f = true) (K : ∀ c a b p, e = .IfExp c a b p → f c a b p = true → C) : C :=
  bdite h fun k h => Expr.IfExp.elim (motive_1 := fun e' => ∀ k : e'.ctorIdx = 5, e = e' → Expr.IfExp.elim e' k f = true → C) e k (fun c a b p ζ => K c a b p) k rfl h
noncomputable def tTup (e : Expr) (f : List Expr → Nat → Pos → Bool) : Bool := if h : e.ctorIdx = 25 then Expr.Tuple.elim e h f else false
theorem tTup_inv {e : Expr} {f : List Expr → Nat → Pos → Bool} {C : Prop} (h : tTup e f = true) (K : ∀ l k p, e = .Tuple l k p → f l k p = true → C) : C :=
  bdite h fun k h => Expr.Tuple.elim (motive_1 := fun e' => ∀ k : e'.ctorIdx = 25, e = e' → Expr.Tuple.elim e' k f = true → C) e k (fun l k p ζ => K l k p) k rfl h
noncomputable def tList (e : Expr) (f : List Expr → Pos → Bool) : Bool := if h : e.ctorIdx = 24 then Expr.List.elim e h f else false
theorem tList_inv {e : Expr} {f : List Expr → Pos → Bool} {C : Prop} (h : tList e f = true) (K : ∀ l p, e = .List l p → f l p = true → C) : C :=
  bdite h fun k h => Expr.List.elim (motive_1 := fun e' => ∀ k : e'.ctorIdx = 24, e = e' → Expr.List.elim e' k f = true → C) e k (fun l p ζ => K l p) k rfl h
noncomputable def tDict (e : Expr) (f : List (Option Expr) → List Expr → Pos → Bool) : Bool := if h : e.ctorIdx = 6 then Expr.Dict.elim e h f else false
theorem tDict_inv {e : Expr} {f : List (Option Expr) → List Expr → Pos → Bool} {C : Prop} (h : tDict e f = true) (K : ∀ k v p, e = .Dict k v p → f k v p = true → C) : C :=
  bdite h fun k h => Expr.Dict.elim (motive_1 := fun e' => ∀ k : e'.ctorIdx = 6, e = e' → Expr.Dict.elim e' k f = true → C) e k (fun k v p ζ => K k v p) k rfl h
noncomputable def tAttr (e : Expr) (f : Expr → Str → Pos → Bool) : Bool := if h : e.ctorIdx = 20 then Expr.Attribute.elim e h f else false
theorem tAttr_inv {e : Expr} {f : Expr → Str → Pos → Bool} {C : Prop} (h : tAttr e f = true) (K : ∀ o n p, e = .Attribute o n p → f o n p = true → C) : C :=
  bdite h fun k h => Expr.Attribute.elim (motive_1 := fun e' => ∀ k : e'.ctorIdx = 20, e = e' → Expr.Attribute.elim e' k f = true → C) e k (fun o n p ζ => K o n p) k rfl h
noncomputable def tSub (e : Expr) (f : Expr → Expr → Pos → Bool) : Bool := if h : e.ctorIdx = 21 then Expr.Subscript.elim e h f else false
theorem tSub_inv {e : Expr} {f : Expr → Expr → Pos → Bool} {C : Prop} (h : tSub e f = true) (K : ∀ o i p, e = .Subscript o i p → f o i p = true → C) : C :=
  bdite h fun k h => Expr.Subscript.elim (motive_1 := fun e' => ∀ k : e'.ctorIdx = 21, e = e' → Expr.Subscript.elim e' k f = true → C) e k (fun o i p ζ => K o i p) k rfl h
noncomputable def tSlice (e : Expr) (f : Option Expr → Option Expr → Option Expr → Pos → Bool) : Bool := if h : e.ctorIdx = 26 then Expr.Slice.elim e h f else false
theorem tSlice_inv {e : Expr} {f : Option Expr → Option Expr → Option Expr → Pos → Bool} {C : Prop} (h : tSlice e f = true) (K : ∀ a b c p, e = .Slice a b c p → f a b c p = true → C) : C :=
  bdite h fun k h => Expr.Slice.elim (motive_1 := fun e' => ∀ k : e'.ctorIdx = 26, e = e' → Expr.Slice.elim e' k f = true → C) e k (fun a b c p ζ => K a b c p) k rfl h
noncomputable def tCall (e : Expr) (f : Expr → List Expr → List Keyword → Pos → Bool) : Bool := if h : e.ctorIdx = 16 then Expr.Call.elim e h f else false
theorem tCall_inv {e : Expr} {f : Expr → List Expr → List Keyword → Pos → Bool} {C : Prop} (h : tCall e f = true) (K : ∀ fe l kw p, e = .Call fe l kw p → f fe l kw p = true → C) : C :=
  bdite h fun k h => Expr.Call.elim (motive_1 := fun e' => ∀ k : e'.ctorIdx = 16, e = e' → Expr.Call.elim e' k f = true → C) e k (fun fe l kw p ζ => K fe l kw p) k rfl h
noncomputable def tComp (e : Expr) (f : Expr → List Comprehension → Scope → Pos → Bool) : Bool := if h : e.ctorIdx = 8 then Expr.ListComp.elim e h f else false
theorem tComp_inv {e : Expr} {f : Expr → List Comprehension → Scope → Pos → Bool} {C : Prop} (h : tComp e f = true) (K : ∀ e1 l s p, e = .ListComp e1 l s p → f e1 l s p = true → C) : C :=
  bdite h fun k h => Expr.ListComp.elim (motive_1 := fun e' => ∀ k : e'.ctorIdx = 8, e = e' → Expr.ListComp.elim e' k f = true → C) e k (fun e1 l s p ζ => K e1 l s p) k rfl h

noncomputable def vB : V → Option Bool | .bool i => some i | _ => none


noncomputable def vN : V → Bool | .none => true | _ => false
theorem vI_eq {v : V} {i : Int} (h : vI v = some i) : v = .int i := by cases v <;> first | exact no_some h | exact congrArg V.int (sinj h)
theorem vB_eq {v : V} {i : Bool} (h : vB v = some i) : v = .bool i := by cases v <;> first | exact no_some h | exact congrArg V.bool (sinj h)
theorem vS_eq {v : V} {i : Str} (h : vS v = some i) : v = .str i := by cases v <;> first | exact no_some h | exact congrArg V.str (sinj h)
theorem vT_eq {v : V} {i : List V} (h : vT v = some i) : v = .tup i := by cases v <;> first | exact no_some h | exact congrArg V.tup (sinj h)
theorem vN_eq {v : V} (h : vN v = true) : v = .none := by cases v <;> first | exact no_true h | rfl
theorem two_any {α β : Type} [BEq β] [LawfulBEq β] {f : α → Option β} {a b : α} (h : ((f a).any fun i => (f b).any fun j => i == j) = true) : ∃ i, f a = some i ∧ f b = some i :=
  oany h fun i h1 h => oany h fun ζ h2 h => ⟨i, h1, h2.trans (congrArg some (beqt h).symm)⟩
/- values that a text may hold: the same -/
noncomputable def sEq (a b : V) : Bool := ((vI a).any fun i => (vI b).any fun j => i == j) || ((vS a).any fun i => (vS b).any fun j => i == j) || ((vB a).any fun i => (vB b).any fun j => i == j) || (vN a && vN b)
theorem sEq_eq {a b : V} (h : sEq a b = true) : a = b := by
  rcases Bool.or_eq_true_iff.mp h with h | h
  · rcases Bool.or_eq_true_iff.mp h with h | h
    · rcases Bool.or_eq_true_iff.mp h with h | h
      · obtain ⟨i, h1, h2⟩ := two_any h
        exact (vI_eq h1).trans (vI_eq h2).symm
      · obtain ⟨i, h1, h2⟩ := two_any h
        exact (vS_eq h1).trans (vS_eq h2).symm
    · obtain ⟨i, h1, h2⟩ := two_any h
      exact (vB_eq h1).trans (vB_eq h2).symm
  · exact band2 h fun h1 h2 => (vN_eq h1).trans (vN_eq h2).symm
noncomputable def vEq (a b : V) : Bool := sEq a b || (vT a).any fun l => (vT b).any fun m => (one l).any fun x => (one m).any fun y => sEq x y
theorem vEq_eq {a b : V} (h : vEq a b = true) : a = b := by
  rcases Bool.or_eq_true_iff.mp h with h | h
  · exact sEq_eq h
  · exact oany h fun l h1 h => oany h fun m h2 h => oany h fun x h3 h => oany h fun y h4 h => (vT_eq h1).trans ((congrArg V.tup ((one_eq h3).trans ((congrArg (fun x => [x]) (sEq_eq h)).trans (one_eq h4).symm))).trans (vT_eq h2).symm)
noncomputable def cEq (c : Const) (v : V) : Bool := (constV c).any fun w => sEq w v
theorem cEq_eq {c : Const} {v : V} (h : cEq c v = true) : constV c = some v := oany h fun ζ h1 h2 => h1.trans (congrArg some (sEq_eq h2))
noncomputable def gV : GV → Option V | .val v => some v | _ => none
noncomputable def gF : GV → Option Fn | .fn v => some v | _ => none
noncomputable def gC : GV → Option Nat | .cls v => some v | _ => none
theorem gV_eq {g : GV} {v : V} (h : gV g = some v) : g = .val v := by cases g <;> first | exact no_some h | exact congrArg GV.val (sinj h)
theorem gF_eq {g : GV} {v : Fn} (h : gF g = some v) : g = .fn v := by cases g <;> first | exact no_some h | exact congrArg GV.fn (sinj h)
theorem gC_eq {g : GV} {v : Nat} (h : gC g = some v) : g = .cls v := by cases g <;> first | exact no_some h | exact congrArg GV.cls (sinj h)
noncomputable def gValOk (T : CT) (x : Str) (v : V) : Bool := (globOf T x).any fun g => (gV g).any fun w => vEq w v
theorem gValOk_eq {T : CT} {x : Str} {v : V} (h : gValOk T x v = true) : globOf T x = some (.val v) := oany h fun ζ h1 h => oany h fun ζ h2 h => h1.trans (congrArg some ((gV_eq h2).trans (congrArg GV.val (vEq_eq h))))
noncomputable def gFnOk (T : CT) (x : Str) (f : Fn) : Bool := (globOf T x).any fun g => (gF g).any fun w => decide (w = f)
theorem gFnOk_eq {T : CT} {x : Str} {f : Fn} (h : gFnOk T x f = true) : globOf T x = some (.fn f) := oany h fun ζ h1 h => oany h fun ζ h2 h => h1.trans (congrArg some ((gF_eq h2).trans (congrArg GV.fn (ctrue h))))
noncomputable def gFnAny (T : CT) (x : Str) : Bool := (globOf T x).any fun g => (gF g).isSome
theorem gFnAny_eq {T : CT} {x : Str} (h : gFnAny T x = true) : ∃ g, globOf T x = some (.fn g) := oany h fun ζ h1 h => let ⟨f, h2⟩ := Option.isSome_iff_exists.mp h; ⟨f, h1.trans (congrArg some (gF_eq h2))⟩
noncomputable def gClsOk (T : CT) (x : Str) (k : Nat) : Bool := (globOf T x).any fun g => (gC g).any fun w => w == k
theorem gClsOk_eq {T : CT} {x : Str} {k : Nat} (h : gClsOk T x k = true) : globOf T x = some (.cls k) := oany h fun ζ h1 h => oany h fun ζ h2 h => h1.trans (congrArg some ((gC_eq h2).trans (congrArg GV.cls (beqt h))))
/- a name of the module -/
noncomputable def ixG (x : Str) (sc : Scope) : Bool := (idxOf x sc.names 0).any fun p => p.2 == .globalImplicit
theorem ixG_eq {x : Str} {sc : Scope} (h : ixG x sc = true) : ∃ n, idxOf x sc.names 0 = some (n, .globalImplicit) := by
  obtain ⟨⟨n, k⟩, h1, h2⟩ := oany_of h
  exact ⟨n, h1.trans (congrArg (fun k => some (n, k)) (beq_iff_eq.mp h2))⟩
/- a name of the function -/
noncomputable def ixL (x : Str) (sc : Scope) (i : Nat) : Bool := (idxOf x sc.names 0).any fun p => p.1 == i && isLoc p.2
theorem ixL_eq {x : Str} {sc : Scope} {i : Nat} (h : ixL x sc i = true) : ∃ k, idxOf x sc.names 0 = some (i, k) ∧ isLoc k = true := by
  obtain ⟨⟨n, k⟩, h1, h2⟩ := oany_of h
  obtain ⟨h2, h3⟩ := band_of h2
  exact ⟨k, h1.trans (congrArg (fun n => some (n, k)) (beq_iff_eq.mp h2)), h3⟩
noncomputable def ixLC (x : Str) (sc : Scope) (i : Nat) : Bool := (idxOf x sc.names 0).any fun p => p.1 == i && (p.2 == .local || p.2 == .cell)
theorem ixLC_eq {x : Str} {sc : Scope} {i : Nat} (h : ixLC x sc i = true) : ∃ k, idxOf x sc.names 0 = some (i, k) ∧ (k = .local ∨ k = .cell) := by
  obtain ⟨⟨n, k⟩, h1, h2⟩ := oany_of h
  obtain ⟨h2, h3⟩ := band_of h2
  exact ⟨k, h1.trans (congrArg (fun n => some (n, k)) (beq_iff_eq.mp h2)), (Bool.or_eq_true_iff.mp h3).imp beq_iff_eq.mp beq_iff_eq.mp⟩
noncomputable def isiT : Fn → Option Str
  | .isInt => some ("int" : Str)
  | .isStr => some ("str" : Str)
  | .isTuple => some ("tuple" : Str)
  | .isBool => some ("bool" : Str)
  | _ => none
noncomputable def kvOf : List (Option Expr) → List Expr → Option (List Expr)
  | [], [] => some []
  | a :: ks, vs => a.bind fun k => (one vs).bind fun v => if ks.isEmpty then some [k, v] else none
  | _, _ => none
theorem kvOf_eq {ks : List (Option Expr)} {vs es : List Expr} (h : kvOf ks vs = some es) : (ks = [] ∧ vs = [] ∧ es = []) ∨ ∃ k v, ks = [some k] ∧ vs = [v] ∧ es = [k, v] := by
  cases ks with
  | nil => cases vs with
    | nil => exact .inl ⟨rfl, rfl, (sinj h).symm⟩
    | cons _ _ => exact no_some h
  | cons a ks =>
    cases a with
    | none => exact no_some h
    | some k =>
      obtain ⟨v, h1, h⟩ := Option.bind_eq_some_iff.mp (show ((one vs).bind fun v => if ks.isEmpty then some [k, v] else none) = some es from h)
      cases ks with
      | nil => exact .inr ⟨k, v, rfl, one_eq h1, (sinj h).symm⟩
      | cons _ _ => exact no_some h
/- isinstance(x, t) -/
noncomputable def chkI (T : CT) (sc : Scope) (t g : Str) (l : List Expr) (ck : List Expr → Bool) : Bool := gFnAny T g && g == ("isinstance" : Str) && (two l).any fun a => ck [a.1] && tName a.2 fun y ζ => y == t && ixG y sc
/- what is called by a plain name -/
noncomputable def chkF (T : CT) (sc : Scope) (f : Fn) (g : Str) (l : List Expr) (ck : List Expr → Bool) : Bool := match f with
  | .cls k => gClsOk T g k && ck l
  | .isInt => chkI T sc ("int" : Str) g l ck
  | .isStr => chkI T sc ("str" : Str) g l ck
  | .isTuple => chkI T sc ("tuple" : Str) g l ck
  | .isBool => chkI T sc ("bool" : Str) g l ck
  | f => gFnOk T g f && !(g == ("isinstance" : Str)) && ck l

mutual
/- this text, seen so -/
noncomputable def chkE (T : CT) : IE → Scope → Expr → Bool
  | .val v, sc, e => tConst e (fun c ζ ζ => cEq c v) || tName e fun x ζ => ixG x sc && !(x == ("__debug__" : Str)) && !(x == ("__name__" : Str)) && gValOk T x v
  | .loc i, sc, e => tName e fun x ζ => ixL x sc i && !(x == ("__debug__" : Str)) && !(x == ("__classdict__" : Str))
  | .neg i, sc, e => tUn e fun o x ζ => o == .USub && chkE T i sc x
  | .not i, sc, e => tUn e fun o x ζ => o == .Not && chkE T i sc x
  | .bin op i j, sc, e => tBin e fun a o b ζ => o == op && chkE T i sc a && chkE T j sc b
  | .cmp op i j, sc, e => tCmp e fun a os bs ζ => (one os).any fun o => (one bs).any fun b => o == op && chkE T i sc a && chkE T j sc b && !behindInMarks op b
  | .bop op l, sc, e => tBool e fun o vs ζ => o == op && chkEs T l sc vs
  | .ite i j k, sc, e => tIf e fun c a b ζ => chkE T i sc c && chkE T j sc a && chkE T k sc b
  | .tup l, sc, e => tTup e fun es ζ ζ => decide (es.length < 1000) && chkEs T l sc es
  | .list l, sc, e => tList e fun es ζ => decide (es.length < 1000) && chkEs T l sc es
  | .dict l, sc, e => tDict e fun ks vs ζ => (kvOf ks vs).any fun es => chkEs T l sc es
  | .cdict l, _, e => tDict e fun ks vs ζ => decide (1 < ks.length) && decide (constPairs ks vs = some l) && decide (l.length < 1000) && decide (l.map (·.1)).Nodup
  | .attr i j, sc, e => tAttr e fun o n ζ => chkE T i sc o && decide (attrIx T.at_ n 0 = some j) && noSup o
  | .slice i j, sc, e => tSub e fun o x ζ => tSlice x fun a b d ζ => a.isNone && d.isNone && b.any fun u => chkE T i sc o && chkE T j sc u
  | .sub i j, sc, e => tSub e fun o x ζ => chkE T i sc o && chkE T j sc x
  | .call f l, sc, e => tCall e fun fe es kw ζ => kw.isEmpty && tName fe fun g ζ => ixG g sc && chkF T sc f g es (chkEs T l sc)
  | .base k l, sc, e => tCall e fun fe es kw p => kw.isEmpty && tAttr fe fun o n p2 => tName o fun f ζ => ixG f sc && gClsOk T f k && n == ("__init__" : Str) && p2.endLine == p.line && decide (es.length < 28) && chkEs T l sc es
  | .mcall i j l, sc, e => tCall e fun fe es kw p => kw.isEmpty && tAttr fe fun o n p2 => chkE T i sc o && decide (attrIx T.at_ n 0 = some j) && noSup o && p2.endLine == p.line && decide (es.length < 28) && chkEs T l sc es
  | .comp j k i l m, sc, e => tComp e fun elt gs cs ζ => (one gs).any fun g => tName g.target fun y ζ => g.is_async == 0 && scopeOk sc cs && decide (linkOf sc cs.names 0 = m) && decide (idxOf y (ownScope sc cs).names 0 = some (k, .local)) &&
      chkE T i sc g.iter && chkE T j (ownScope sc cs) elt && chkEs T l (ownScope sc cs) g.ifs
noncomputable def chkEs (T : CT) : IEs → Scope → List Expr → Bool
  | .nil, _, es => es.isEmpty
  | .cons i l, sc, es => match es with
    | [] => false
    | e :: r => chkE T i sc e && chkEs T l sc r
end
section
variable {T : CT} {sc : Scope} {e : Expr} {i j k : IE} {l : IEs}
theorem inv_val {v : V} (h : chkE T (.val v) sc e = true) : (∃ c k p, e = .Constant c k p ∧ constV c = some v) ∨
    ∃ x p n, e = .Name x p ∧ idxOf x sc.names 0 = some (n, .globalImplicit) ∧ (x == ("__debug__" : Str)) = false ∧ globOf T x = some (.val v) :=
  (Bool.or_eq_true_iff.mp (show (_ || _) = true from h)).elim (fun h => tConst_inv h fun c k p e0 h => .inl ⟨c, k, p, e0, cEq_eq h⟩) fun h =>
    tName_inv h fun x p e0 h => band4 h fun h1 h2 ζ h4 => let ⟨n, h1⟩ := ixG_eq h1; .inr ⟨x, p, n, e0, h1, bnot_of h2, gValOk_eq h4⟩
theorem inv_loc {C : Prop} {i : Nat} (h : chkE T (.loc i) sc e = true) (K : ∀ x p k, e = .Name x p → idxOf x sc.names 0 = some (i, k) → isLoc k = true → (x == ("__debug__" : Str)) = false → (x == ("__classdict__" : Str)) = false → C) : C :=
  tName_inv h fun x p e0 h => band3 h fun h1 h2 h3 => let ⟨k, h4, h5⟩ := ixL_eq h1; K x p k e0 h4 h5 (bnot_of h2) (bnot_of h3)
theorem inv_neg {C : Prop} (h : chkE T (.neg i) sc e = true) (K : ∀ x p, e = .UnaryOp .USub x p → chkE T i sc x = true → C) : C :=
  tUn_inv h fun ζ x p e0 h => band2 h fun h1 h2 => K x p (e0.trans (congrArg (Expr.UnaryOp · x p) (beqt h1))) h2
theorem inv_not {C : Prop} (h : chkE T (.not i) sc e = true) (K : ∀ x p, e = .UnaryOp .Not x p → chkE T i sc x = true → C) : C :=
  tUn_inv h fun ζ x p e0 h => band2 h fun h1 h2 => K x p (e0.trans (congrArg (Expr.UnaryOp · x p) (beqt h1))) h2
theorem inv_bin {C : Prop} {op : Operator} (h : chkE T (.bin op i j) sc e = true) (K : ∀ a b p, e = .BinOp a op b p → chkE T i sc a = true → chkE T j sc b = true → C) : C :=
  tBin_inv h fun a ζ b p e0 h => band3 h fun h1 h2 h3 => K a b p (e0.trans (congrArg (Expr.BinOp a · b p) (beqt h1))) h2 h3
theorem inv_cmp {C : Prop} {op : CmpOp} (h : chkE T (.cmp op i j) sc e = true) (K : ∀ a b p, e = .Compare a [op] [b] p → chkE T i sc a = true → chkE T j sc b = true → behindInMarks op b = false → C) : C :=
  tCmp_inv h fun a os bs p e0 h => oany h fun o h1 h => oany h fun b h2 h => band4 h fun h3 h4 h5 h6 =>
    K a b p (e0.trans ((congrArg (Expr.Compare a · bs p) ((one_eq h1).trans (congrArg (fun x => [x]) (beqt h3)))).trans (congrArg (Expr.Compare a [op] · p) (one_eq h2)))) h4 h5 (bnot_of h6)
theorem inv_bop {C : Prop} {op : BoolOp} (h : chkE T (.bop op l) sc e = true) (K : ∀ vs p, e = .BoolOp op vs p → chkEs T l sc vs = true → C) : C :=
  tBool_inv h fun ζ vs p e0 h => band2 h fun h1 h2 => K vs p (e0.trans (congrArg (Expr.BoolOp · vs p) (beqt h1))) h2
theorem inv_ite {C : Prop} (h : chkE T (.ite i j k) sc e = true) (K : ∀ c a b p, e = .IfExp c a b p → chkE T i sc c = true → chkE T j sc a = true → chkE T k sc b = true → C) : C :=
  tIf_inv h fun c a b p e0 h => band3 h (K c a b p e0)
theorem inv_tup {C : Prop} (h : chkE T (.tup l) sc e = true) (K : ∀ es k p, e = .Tuple es k p → es.length < 1000 → chkEs T l sc es = true → C) : C :=
  tTup_inv h fun es k p e0 h => band2 h fun h1 => K es k p e0 (ctrue h1)
theorem inv_list {C : Prop} (h : chkE T (.list l) sc e = true) (K : ∀ es p, e = .List es p → es.length < 1000 → chkEs T l sc es = true → C) : C :=
  tList_inv h fun es p e0 h => band2 h fun h1 => K es p e0 (ctrue h1)
theorem inv_nil {es : List Expr} (h : chkEs T .nil sc es = true) : es = [] := emp h
theorem inv_cons {C : Prop} {es : List Expr} (h : chkEs T (.cons i l) sc es = true) (K : ∀ e r, es = e :: r → chkE T i sc e = true → chkEs T l sc r = true → C) : C := by
  cases es with
  | nil => exact no_true h
  | cons e r => exact band2 h (K e r rfl)
theorem inv_none (h : chkEs T l sc [] = true) : l = .nil := by
  cases l with
  | nil => rfl
  | cons _ _ => exact no_true h
theorem inv_one {C : Prop} (h : chkEs T l sc [e] = true) (K : ∀ i, l = .cons i .nil → chkE T i sc e = true → C) : C := by
  cases l with
  | nil => exact no_true h
  | cons i l => exact band2 h fun h1 h2 => K i (congrArg (IEs.cons i) (inv_none h2)) h1
theorem inv_dict (h : chkE T (.dict l) sc e = true) : ∃ p, (l = .nil ∧ e = .Dict [] [] p) ∨ ∃ ik iv k v, l = .cons ik (.cons iv .nil) ∧ e = .Dict [some k] [v] p ∧ chkE T ik sc k = true ∧ chkE T iv sc v = true :=
  tDict_inv h fun ks vs p e0 h => oany h fun es h1 h => ⟨p, (kvOf_eq h1).elim (fun ⟨a, b, d⟩ => .inl ⟨inv_none (d ▸ h), by rw [e0, a, b]⟩) fun ⟨k, v, a, b, d⟩ => .inr (by
    subst a b d
    cases l with
    | nil => exact no_true h
    | cons ik l => exact band2 h fun h1 h2 => inv_one h2 fun iv h3 h4 => ⟨ik, iv, k, v, congrArg (IEs.cons ik) h3, e0, h1, h4⟩)⟩
theorem inv_cdict {C : Prop} {l : List (Str × Str)} (h : chkE T (.cdict l) sc e = true) (K : ∀ ks vs p, e = .Dict ks vs p → 1 < ks.length → constPairs ks vs = some l → l.length < 1000 → (l.map (·.1)).Nodup → C) : C :=
  tDict_inv h fun ks vs p e0 h => band4 h fun h1 h2 h3 h4 => K ks vs p e0 (ctrue h1) (ctrue h2) (ctrue h3) (ctrue h4)
theorem inv_attr {C : Prop} {j : Nat} (h : chkE T (.attr i j) sc e = true) (K : ∀ v n p, e = .Attribute v n p → chkE T i sc v = true → attrIx T.at_ n 0 = some j → noSup v = true → C) : C :=
  tAttr_inv h fun o n p e0 h => band3 h fun h1 h2 => K o n p e0 h1 (ctrue h2)
theorem inv_slice {C : Prop} (h : chkE T (.slice i j) sc e = true) (K : ∀ v u q p, e = .Subscript v (.Slice none (some u) none q) p → chkE T i sc v = true → chkE T j sc u = true → C) : C :=
  tSub_inv h fun o x p e0 h => tSlice_inv h fun a b d q e1 h => band3 h fun h1 h2 h => oany h fun u h3 h => band2 h (K o u q p (by rw [e0, e1, Option.isNone_iff_eq_none.mp h1, Option.isNone_iff_eq_none.mp h2, h3]))
theorem inv_sub {C : Prop} (h : chkE T (.sub i j) sc e = true) (K : ∀ v u p, e = .Subscript v u p → chkE T i sc v = true → chkE T j sc u = true → C) : C :=
  tSub_inv h fun o x p e0 h => band2 h (K o x p e0)
theorem inv_call {C : Prop} {f : Fn} (h : chkE T (.call f l) sc e = true) (K : ∀ g p1 es p n, e = .Call (.Name g p1) es [] p → idxOf g sc.names 0 = some (n, .globalImplicit) → chkF T sc f g es (chkEs T l sc) = true → C) : C :=
  tCall_inv h fun fe es kw p e0 h => band2 h fun h1 h => tName_inv h fun g p1 e1 h => band2 h fun h2 h3 => let ⟨n, h2⟩ := ixG_eq h2; K g p1 es p n (by rw [e0, e1, emp h1]) h2 h3
theorem inv_callC {C : Prop} {k : Nat} (h : chkE T (.call (.cls k) l) sc e = true) (K : ∀ f p1 args p n, e = .Call (.Name f p1) args [] p → idxOf f sc.names 0 = some (n, .globalImplicit) → globOf T f = some (.cls k) → chkEs T l sc args = true → C) : C :=
  inv_call h fun g p1 es p n e0 h1 h => band2 h fun h2 => K g p1 es p n e0 h1 (gClsOk_eq h2)
theorem isiT_some {f : Fn} {t : Str} (h : isiT f = some t) : (t = ("int" : Str) ∧ f = .isInt) ∨ (t = ("str" : Str) ∧ f = .isStr) ∨ (t = ("tuple" : Str) ∧ f = .isTuple) ∨ (t = ("bool" : Str) ∧ f = .isBool) := by
  cases f <;> first | exact no_some h | exact .inl ⟨(sinj h).symm, rfl⟩ | exact .inr (.inl ⟨(sinj h).symm, rfl⟩) | exact .inr (.inr (.inl ⟨(sinj h).symm, rfl⟩)) | exact .inr (.inr (.inr ⟨(sinj h).symm, rfl⟩))
theorem chkF_isi {f : Fn} {t g : Str} {es : List Expr} {ck : List Expr → Bool} (ht : isiT f = some t) (h : chkF T sc f g es ck = true) : chkI T sc t g es ck = true := by
  rcases isiT_some ht with ⟨rfl, rfl⟩ | ⟨rfl, rfl⟩ | ⟨rfl, rfl⟩ | ⟨rfl, rfl⟩ <;> exact h
theorem inv_isi {f : Fn} {t : Str} {C : Prop} (h : chkE T (.call f l) sc e = true) (ht : isiT f = some t)
    (K : ∀ g p1 a p2 p n m i z, e = .Call (.Name g p1) [a, .Name t p2] [] p → l = .cons i .nil → idxOf g sc.names 0 = some (n, .globalImplicit) → idxOf t sc.names 0 = some (m, .globalImplicit) → globOf T g = some (.fn z) → g = ("isinstance" : Str) → chkE T i sc a = true → C) : C :=
  inv_call h fun g p1 es p n e0 h1 h => band3 (chkF_isi ht h) fun h2 h3 h => oany h fun a h4 h => band2 h fun h5 h => tName_inv h fun y p2 e2 h => band2 h fun h6 h7 =>
    let ⟨z, hz⟩ := gFnAny_eq h2
    let ⟨m, hm⟩ := ixG_eq h7
    inv_one h5 fun i e3 h8 => K g p1 a.1 p2 p n m i z (by rw [e0, two_eq h4, e2, beqt h6]) e3 h1 (beqt h6 ▸ hm) hz (beqt h3) h8
theorem inv_fn {f : Fn} {C : Prop} (h : chkE T (.call f l) sc e = true) (hf : ∀ k, f ≠ .cls k) (ht : isiT f = none)
    (K : ∀ g p1 args p n, e = .Call (.Name g p1) args [] p → idxOf g sc.names 0 = some (n, .globalImplicit) → globOf T g = some (.fn f) → (g == ("isinstance" : Str)) = false → chkEs T l sc args = true → C) : C :=
  inv_call h fun g p1 es p n e0 h1 h => by
    have h : (gFnOk T g f && !(g == ("isinstance" : Str)) && chkEs T l sc es) = true := by
      cases f <;> first | exact h | exact no_some ht.symm | exact absurd rfl (hf _)
    exact band3 h fun h2 h3 h4 => K g p1 es p n e0 h1 (gFnOk_eq h2) (bnot_of h3) h4
theorem inv_base {C : Prop} {k : Nat} (h : chkE T (.base k l) sc e = true) (K : ∀ x p1 n p2 args p i, e = .Call (.Attribute (.Name x p1) n p2) args [] p → idxOf x sc.names 0 = some (i, .globalImplicit) → globOf T x = some (.cls k) → n = ("__init__" : Str) → p2.endLine = p.line → args.length < 28 → chkEs T l sc args = true → C) : C :=
  tCall_inv h fun fe es kw p e0 h => band2 h fun h0 h => tAttr_inv h fun o n p2 e1 h => tName_inv h fun f p1 e2 h => band6 h fun h1 h2 h3 h4 h5 h6 => let ⟨i, h1⟩ := ixG_eq h1; K f p1 n p2 es p i (by rw [e0, e1, e2, emp h0]) h1 (gClsOk_eq h2) (beqt h3) (beqt h4) (ctrue h5) h6
theorem inv_mcall {C : Prop} {j : Nat} (h : chkE T (.mcall i j l) sc e = true) (K : ∀ o n p2 args p, e = .Call (.Attribute o n p2) args [] p → chkE T i sc o = true → attrIx T.at_ n 0 = some j → chkEs T l sc args = true → noSup o = true → p2.endLine = p.line → args.length < 28 → C) : C :=
  tCall_inv h fun fe es kw p e0 h => band2 h fun h0 h => tAttr_inv h fun o n p2 e1 h => band6 h fun h1 h2 h3 h4 h5 h6 => K o n p2 es p (by rw [e0, e1, emp h0]) h1 (ctrue h2) h6 h3 (beqt h4) (ctrue h5)
theorem inv_comp {C : Prop} {x : Nat} {m : List (Nat × Nat)} (h : chkE T (.comp j x i l m) sc e = true) (K : ∀ elt y p1 src ifs cs p, e = .ListComp elt [⟨.Name y p1, src, ifs, 0⟩] cs p → m = linkOf sc cs.names 0 → scopeOk sc cs = true → chkE T i sc src = true → chkE T j (ownScope sc cs) elt = true → chkEs T l (ownScope sc cs) ifs = true → idxOf y (ownScope sc cs).names 0 = some (x, .local) → C) : C :=
  tComp_inv h fun e1 gs cs p e0 h => oany h fun g h1 h => tName_inv h fun y p1 e1' h => band7 h fun h2 h3 h4 h5 h6 h7 h8 => by
    obtain ⟨tg, src, ifs, as⟩ := g
    have h2 : as = 0 := beqt h2
    have h3' : tg = .Name y p1 := e1'
    subst h2 h3'
    exact K e1 y p1 src ifs cs p (by rw [e0, one_eq h1]) (ctrue h4).symm h3 h6 h7 h8 (ctrue h5)
/- no shape of ours is this -/
noncomputable def bad (n : Nat) : Bool := n == 7 || n == 22 || n == 26
theorem no_bad {C : Prop} {e' : Expr} (e0 : e = e') (hb : bad e.ctorIdx = true) (hm : bad e'.ctorIdx = false) : C := by
  subst e0
  exact no_true (hm.symm.trans hb)
theorem chk_good {C : Prop} (h : chkE T i sc e = true) (hg : bad e.ctorIdx = true) : C := by
  cases i with
  | val v => exact (Bool.or_eq_true_iff.mp (show (_ || _) = true from h)).elim (fun h => tConst_inv h fun ζ ζ ζ e0 ζ => no_bad e0 hg rfl) fun h => tName_inv h fun ζ ζ e0 ζ => no_bad e0 hg rfl
  | loc => exact tName_inv h fun ζ ζ e0 ζ => no_bad e0 hg rfl
  | neg => exact tUn_inv h fun ζ ζ ζ e0 ζ => no_bad e0 hg rfl
  | not => exact tUn_inv h fun ζ ζ ζ e0 ζ => no_bad e0 hg rfl
  | bin => exact tBin_inv h fun ζ ζ ζ ζ e0 ζ => no_bad e0 hg rfl
  | cmp => exact tCmp_inv h fun ζ ζ ζ ζ e0 ζ => no_bad e0 hg rfl
  | bop => exact tBool_inv h fun ζ ζ ζ e0 ζ => no_bad e0 hg rfl
  | ite => exact tIf_inv h fun ζ ζ ζ ζ e0 ζ => no_bad e0 hg rfl
  | tup => exact tTup_inv h fun ζ ζ ζ e0 ζ => no_bad e0 hg rfl
  | list => exact tList_inv h fun ζ ζ e0 ζ => no_bad e0 hg rfl
  | dict => exact tDict_inv h fun ζ ζ ζ e0 ζ => no_bad e0 hg rfl
  | cdict => exact tDict_inv h fun ζ ζ ζ e0 ζ => no_bad e0 hg rfl
  | attr => exact tAttr_inv h fun ζ ζ ζ e0 ζ => no_bad e0 hg rfl
  | sub => exact tSub_inv h fun ζ ζ ζ e0 ζ => no_bad e0 hg rfl
  | slice => exact tSub_inv h fun ζ ζ ζ e0 ζ => no_bad e0 hg rfl
  | call => exact tCall_inv h fun ζ ζ ζ ζ e0 ζ => no_bad e0 hg rfl
  | base => exact tCall_inv h fun ζ ζ ζ ζ e0 ζ => no_bad e0 hg rfl
  | mcall => exact tCall_inv h fun ζ ζ ζ ζ e0 ζ => no_bad e0 hg rfl
  | comp => exact tComp_inv h fun ζ ζ ζ ζ e0 ζ => no_bad e0 hg rfl
end
end Mine.Internal
end
section
open PySem PySem.W PySem.Calls PyProof.Rows
namespace Mine.Internal

noncomputable def tExpr (e : Stmt) (f : Expr → Pos → Bool) : Bool := if h : e.ctorIdx = 24 then Stmt.Expr.elim e h f else false
theorem tExpr_inv {e : Stmt} {f : Expr → Pos → Bool} {C : Prop} (h : tExpr e f = true) (K : ∀ x p, e = .Expr x p → f x p = true → C) : C :=
  bdite h fun k h => Stmt.Expr.elim (motive_2 := fun e' => ∀ k : e'.ctorIdx = 24, e = e' → Stmt.Expr.elim e' k f = true → C) e k (fun x p ζ => K x p) k rfl h
noncomputable def tAsg (e : Stmt) (f : List Expr → Expr → Pos → Bool) : Bool := if h : e.ctorIdx = 5 then Stmt.Assign.elim e h f else false
theorem tAsg_inv {e : Stmt} {f : List Expr → Expr → Pos → Bool} {C : Prop} (h : tAsg e f = true) (K : ∀ l v p, e = .Assign l v p → f l v p = true → C) : C :=
  bdite h fun k h => Stmt.Assign.elim (motive_2 := fun e' => ∀ k : e'.ctorIdx = 5, e = e' → Stmt.Assign.elim e' k f = true → C) e k (fun l v p ζ => K l v p) k rfl h
noncomputable def tAug (e : Stmt) (f : Expr → Operator → Expr → Pos → Bool) : Bool := if h : e.ctorIdx = 7 then Stmt.AugAssign.elim e h f else false
theorem tAug_inv {e : Stmt} {f : Expr → Operator → Expr → Pos → Bool} {C : Prop} (h : tAug e f = true) (K : ∀ a o v p, e = .AugAssign a o v p → f a o v p = true → C) : C :=
  bdite h fun k h => Stmt.AugAssign.elim (motive_2 := fun e' => ∀ k : e'.ctorIdx = 7, e = e' → Stmt.AugAssign.elim e' k f = true → C) e k (fun a o v p ζ => K a o v p) k rfl h
noncomputable def tIfS (e : Stmt) (f : Expr → List Stmt → List Stmt → Pos → Bool) : Bool := if h : e.ctorIdx = 12 then Stmt.If.elim e h f else false
theorem tIfS_inv {e : Stmt} {f : Expr → List Stmt → List Stmt → Pos → Bool} {C : Prop} (h : tIfS e f = true) (K : ∀ c t u p, e = .If c t u p → f c t u p = true → C) : C :=
  bdite h fun k h => Stmt.If.elim (motive_2 := fun e' => ∀ k : e'.ctorIdx = 12, e = e' → Stmt.If.elim e' k f = true → C) e k (fun c t u p ζ => K c t u p) k rfl h
noncomputable def tWhile (e : Stmt) (f : Expr → List Stmt → List Stmt → Pos → Bool) : Bool := if h : e.ctorIdx = 11 then Stmt.While.elim e h f else false
theorem tWhile_inv {e : Stmt} {f : Expr → List Stmt → List Stmt → Pos → Bool} {C : Prop} (h : tWhile e f = true) (K : ∀ c b o p, e = .While c b o p → f c b o p = true → C) : C :=
  bdite h fun k h => Stmt.While.elim (motive_2 := fun e' => ∀ k : e'.ctorIdx = 11, e = e' → Stmt.While.elim e' k f = true → C) e k (fun c b o p ζ => K c b o p) k rfl h
noncomputable def tFor (e : Stmt) (f : Expr → Expr → List Stmt → List Stmt → Pos → Bool) : Bool := if h : e.ctorIdx = 9 then Stmt.For.elim e h f else false
theorem tFor_inv {e : Stmt} {f : Expr → Expr → List Stmt → List Stmt → Pos → Bool} {C : Prop} (h : tFor e f = true) (K : ∀ x s b o p, e = .For x s b o p → f x s b o p = true → C) : C :=
  bdite h fun k h => Stmt.For.elim (motive_2 := fun e' => ∀ k : e'.ctorIdx = 9, e = e' → Stmt.For.elim e' k f = true → C) e k (fun x s b o p ζ => K x s b o p) k rfl h
noncomputable def tRet (e : Stmt) (f : Option Expr → Pos → Bool) : Bool := if h : e.ctorIdx = 3 then Stmt.Return.elim e h f else false
theorem tRet_inv {e : Stmt} {f : Option Expr → Pos → Bool} {C : Prop} (h : tRet e f = true) (K : ∀ o p, e = .Return o p → f o p = true → C) : C :=
  bdite h fun k h => Stmt.Return.elim (motive_2 := fun e' => ∀ k : e'.ctorIdx = 3, e = e' → Stmt.Return.elim e' k f = true → C) e k (fun o p ζ => K o p) k rfl h
noncomputable def tRaise (e : Stmt) (f : Option Expr → Option Expr → Pos → Bool) : Bool := if h : e.ctorIdx = 16 then Stmt.Raise.elim e h f else false
theorem tRaise_inv {e : Stmt} {f : Option Expr → Option Expr → Pos → Bool} {C : Prop} (h : tRaise e f = true) (K : ∀ o z p, e = .Raise o z p → f o z p = true → C) : C :=
  bdite h fun k h => Stmt.Raise.elim (motive_2 := fun e' => ∀ k : e'.ctorIdx = 16, e = e' → Stmt.Raise.elim e' k f = true → C) e k (fun o z p ζ => K o z p) k rfl h
noncomputable def tTry (e : Stmt) (f : List Stmt → List ExceptHandler → List Stmt → List Stmt → Pos → Bool) : Bool := if h : e.ctorIdx = 17 then Stmt.Try.elim e h f else false
theorem tTry_inv {e : Stmt} {f : List Stmt → List ExceptHandler → List Stmt → List Stmt → Pos → Bool} {C : Prop} (h : tTry e f = true) (K : ∀ b hs o z p, e = .Try b hs o z p → f b hs o z p = true → C) : C :=
  bdite h fun k h => Stmt.Try.elim (motive_2 := fun e' => ∀ k : e'.ctorIdx = 17, e = e' → Stmt.Try.elim e' k f = true → C) e k (fun b hs o z p ζ => K b hs o z p) k rfl h
/- return False -/
noncomputable def retF (l : List Stmt) : Bool := (one l).any fun s => tRet s fun o ζ => o.any fun e => tConst e fun c ζ ζ => c == .bool false
theorem retF_eq {l : List Stmt} {C : Prop} (h : retF l = true) (K : ∀ k p q, l = [.Return (some (.Constant (.bool false) k p)) q] → C) : C :=
  oany h fun s h1 h => tRet_inv h fun o q e1 h => oany h fun e h2 h => tConst_inv h fun c k p e2 h => K k p q (by rw [one_eq h1, e1, h2, e2, beqt h])
noncomputable def isComp : IE → Bool | .comp .. => true | _ => false
theorem isComp_eq {j : IE} (h : isComp j = true) : ∃ a b d l m, j = .comp a b d l m := by
  cases j <;> first | exact no_true h | exact ⟨_, _, _, _, _, rfl⟩
/- the arm of a try -/
noncomputable def armOk (T : CT) (sc : Scope) (x a y : Nat) : ExceptHandler → Bool
  | .ExceptHandler c n b _ => c.any fun c => n.any fun n => tName c fun c ζ => c == ("PrologError" : Str) && ixG c sc && decide (idxOf n sc.names 0 = some (x, .local)) && !(n == ("__debug__" : Str)) &&
      (one b).any fun s => tIfS s fun i t u ζ => u.isEmpty && retF t && tCmp i fun z os bs ζ => (one os).any fun o => (one bs).any fun b => o == .NotEq && (tAttr z fun w at_ ζ => decide (attrIx T.at_ at_ 0 = some a) && tName w fun m ζ => m == n) &&
        tName b fun m ζ => decide (idxOf m sc.names 0 = some (y, .local)) && !(m == ("__debug__" : Str))
theorem armOk_eq {C : Prop} {T : CT} {sc : Scope} {x a y : Nat} {hd : ExceptHandler} (h : armOk T sc x a y hd = true) (K : ∀ cn p4 n p5 at_ p6 m p7 p8 q4 q5 q6 p9 p10, hd = .ExceptHandler (some (.Name cn p4)) (some n) [.If (.Compare (.Attribute (.Name n p5) at_ p6) [.NotEq] [.Name m p7] p8) [.Return (some (.Constant (.bool false) q4 q5)) q6] [] p9] p10 → idxOf n sc.names 0 = some (x, .local) → idxOf m sc.names 0 = some (y, .local) →   attrIx T.at_ at_ 0 = some a → (∃ z, idxOf cn sc.names 0 = some (z, .globalImplicit)) → cn = ("PrologError" : Str) → (n == ("__debug__" : Str)) = false → (m == ("__debug__" : Str)) = false → C) : C := by
  obtain ⟨c, n, b, p10⟩ := hd
  exact oany h fun c h1 h => oany h fun n h2 h => tName_inv h fun cn p4 e1 h => band5 h fun h3 h4 h5 h6 h => oany h fun s h7 h => tIfS_inv h fun i t u p9 e2 h => band3 h fun h8 h9 h => retF_eq h9 fun q4 q5 q6 e3 => tCmp_inv h fun z os bs p8 e4 h =>
    oany h fun o h10 h => oany h fun b h11 h => band3 h fun h12 h13 h14 => tAttr_inv h13 fun w at_ p6 e5 h => band2 h fun h15 h => tName_inv h fun m' p5 e6 h16 => tName_inv h14 fun m p7 e7 h => band2 h fun h17 h18 =>
    K cn p4 n p5 at_ p6 m p7 p8 q4 q5 q6 p9 p10 (by rw [h1, h2, e1, one_eq h7, e2, emp h8, e3, e4, one_eq h10, one_eq h11, beqt h12, e5, e6, beqt h16, e7]) (ctrue h5) (ctrue h17) (ctrue h15) (ixG_eq h4) (beqt h3) (bnot_of h6) (bnot_of h18)
mutual
noncomputable def chkS (T : CT) : IS → Scope → Stmt → Bool
  | .dead, _, _ => true
  | .expr i, sc, s => tExpr s fun e ζ => noComp e && chkE T i sc e
  | .assign i j, sc, s => tAsg s fun l v ζ => (one l).any fun x => tName x fun n ζ => ixLC n sc i && noComp v && chkE T j sc v
  | .assignC i j, sc, s => tAsg s fun l v q => (one l).any fun x => tName x fun n p => tComp v fun ζ ζ cs cp => decide (idxOf n sc.names 0 = some (i, .local)) && p.line == cp.line && cp.line == q.line && !(cs.names.any fun (m, k) => m == n && (k == .local || k == .cell)) && isComp j && chkE T j sc v
  | .setattr i j k, sc, s => tAsg s fun l v ζ => (one l).any fun x => tAttr x fun o n ζ => chkE T i sc o && decide (attrIx T.at_ n 0 = some j) && noComp v && chkE T k sc v
  | .setsub i j k, sc, s => tAsg s fun l v ζ => (one l).any fun x => tSub x fun o n ζ => chkE T i sc o && chkE T j sc n && noComp v && chkE T k sc v
  | .aug i op j, sc, s => tAug s fun x o v ζ => tName x fun n ζ => ixLC n sc i && o == op && chkE T j sc v
  | .ite i j k, sc, s => tIfS s fun c t u ζ => chkE T i sc c && chkSs T j sc t && chkSs T k sc u
  | .while i j, sc, s => tWhile s fun c b o ζ => o.isEmpty && chkE T i sc c && chkSs T j sc b
  | .for i j k, sc, s => tFor s fun x e b o ζ => o.isEmpty && tName x fun n ζ => ixLC n sc i && chkE T j sc e && chkSs T k sc b
  | .ret i, sc, s => tRet s fun o ζ => o.any fun e => chkE T i sc e
  | .raise i, sc, s => tRaise s fun o z ζ => z.isNone && o.any fun e => chkE T i sc e
  | .try1 i j l x a y, sc, s => tTry s fun b hs o z ζ => o.isEmpty && z.isEmpty && (one hs).any (armOk T sc x a y) && (two b).any fun b => retF [b.2] && tExpr b.1 fun e ζ => chkE T (.mcall i j l) sc e
noncomputable def chkSs (T : CT) : ISs → Scope → List Stmt → Bool
  | .nil, _, l => l.isEmpty
  | .cons i j, sc, l => match l with
    | [] => false
    | s :: r => chkS T i sc s && chkSs T j sc r
end

section
variable {T : CT} {sc : Scope} {s : Stmt} {i j k : IE} {l : IEs} {a b : ISs}
theorem invs_expr {C : Prop} (h : chkS T (.expr i) sc s = true) (K : ∀ e q, s = .Expr e q → noComp e = true → chkE T i sc e = true → C) : C :=
  tExpr_inv h fun e q e0 h => band2 h (K e q e0)
theorem invs_assign {C : Prop} {i : Nat} (h : chkS T (.assign i j) sc s = true) (K : ∀ x p v q k, s = .Assign [.Name x p] v q → idxOf x sc.names 0 = some (i, k) → (k = .local ∨ k = .cell) → chkE T j sc v = true → noComp v = true → C) : C :=
  tAsg_inv h fun l v q e0 h => oany h fun x h1 h => tName_inv h fun n p e1 h => band3 h fun h2 h3 h4 => let ⟨k, h2, h5⟩ := ixLC_eq h2; K n p v q k (by rw [e0, one_eq h1, e1]) h2 h5 h4 h3
theorem invs_assignC {C : Prop} {i : Nat} (h : chkS T (.assignC i j) sc s = true) (K : ∀ a b d l m x p elt gens cs cp q, j = .comp a b d l m → s = .Assign [.Name x p] (.ListComp elt gens cs cp) q → idxOf x sc.names 0 = some (i, .local) → chkE T (.comp a b d l m) sc (.ListComp elt gens cs cp) = true → p.line = cp.line → cp.line = q.line → (cs.names.any fun (n, k) => n == x && (k == .local || k == .cell)) = false → C) : C :=
  tAsg_inv h fun l v q e0 h => oany h fun x h1 h => tName_inv h fun n p e1 h => tComp_inv h fun elt gens cs cp e2 h => band6 h fun h2 h3 h4 h5 h6 h7 => let ⟨a, b, d, l, m, e3⟩ := isComp_eq h6; K a b d l m n p elt gens cs cp q e3 (by rw [e0, one_eq h1, e1, e2]) (ctrue h2) (e2 ▸ e3 ▸ h7) (beqt h3) (beqt h4) (bnot_of h5)
theorem invs_setattr {C : Prop} {j : Nat} (h : chkS T (.setattr i j k) sc s = true) (K : ∀ o n p v q, s = .Assign [.Attribute o n p] v q → chkE T i sc o = true → attrIx T.at_ n 0 = some j → chkE T k sc v = true → noComp v = true → C) : C :=
  tAsg_inv h fun l v q e0 h => oany h fun x h1 h => tAttr_inv h fun o n p e1 h => band4 h fun h2 h3 h4 h5 => K o n p v q (by rw [e0, one_eq h1, e1]) h2 (ctrue h3) h5 h4
theorem invs_setsub {C : Prop} (h : chkS T (.setsub i j k) sc s = true) (K : ∀ o n p v q, s = .Assign [.Subscript o n p] v q → chkE T i sc o = true → chkE T j sc n = true → chkE T k sc v = true → noComp v = true → C) : C :=
  tAsg_inv h fun l v q e0 h => oany h fun x h1 h => tSub_inv h fun o n p e1 h => band4 h fun h2 h3 h4 h5 => K o n p v q (by rw [e0, one_eq h1, e1]) h2 h3 h5 h4
theorem invs_aug {C : Prop} {i : Nat} {op : Operator} (h : chkS T (.aug i op j) sc s = true) (K : ∀ x p v q k, s = .AugAssign (.Name x p) op v q → idxOf x sc.names 0 = some (i, k) → (k = .local ∨ k = .cell) → chkE T j sc v = true → C) : C :=
  tAug_inv h fun x o v q e0 h => tName_inv h fun n p e1 h => band3 h fun h1 h2 h3 => let ⟨k, h1, h4⟩ := ixLC_eq h1; K n p v q k (by rw [e0, e1, beqt h2]) h1 h4 h3
theorem invs_ite {C : Prop} (h : chkS T (.ite i a b) sc s = true) (K : ∀ c t e q, s = .If c t e q → chkE T i sc c = true → chkSs T a sc t = true → chkSs T b sc e = true → C) : C :=
  tIfS_inv h fun c t u q e0 h => band3 h (K c t u q e0)
theorem invs_while {C : Prop} (h : chkS T (.while i a) sc s = true) (K : ∀ c t q, s = .While c t [] q → chkE T i sc c = true → chkSs T a sc t = true → C) : C :=
  tWhile_inv h fun c t o q e0 h => band3 h fun h1 => K c t q (by rw [e0, emp h1])
theorem invs_for {C : Prop} {i : Nat} (h : chkS T (.for i j a) sc s = true) (K : ∀ x p e b q k, s = .For (.Name x p) e b [] q → idxOf x sc.names 0 = some (i, k) → (k = .local ∨ k = .cell) → chkE T j sc e = true → chkSs T a sc b = true → C) : C :=
  tFor_inv h fun x e b o q e0 h => band2 h fun h1 h => tName_inv h fun n p e1 h => band3 h fun h2 h3 h4 => let ⟨k, h2, h5⟩ := ixLC_eq h2; K n p e b q k (by rw [e0, e1, emp h1]) h2 h5 h3 h4
theorem invs_ret {C : Prop} (h : chkS T (.ret i) sc s = true) (K : ∀ e q, s = .Return (some e) q → chkE T i sc e = true → C) : C :=
  tRet_inv h fun o q e0 h => oany h fun e h1 h => K e q (e0.trans (congrArg (Stmt.Return · q) h1)) h
theorem invs_raise {C : Prop} (h : chkS T (.raise i) sc s = true) (K : ∀ e q, s = .Raise (some e) none q → chkE T i sc e = true → C) : C :=
  tRaise_inv h fun o z q e0 h => band2 h fun h1 h => oany h fun e h2 h => K e q (by rw [e0, Option.isNone_iff_eq_none.mp h1, h2]) h
theorem invs_nil {ss : List Stmt} (h : chkSs T .nil sc ss = true) : ss = [] := emp h
theorem invs_cons {C : Prop} {ss : List Stmt} {x : IS} (h : chkSs T (.cons x a) sc ss = true) (K : ∀ e r, ss = e :: r → chkS T x sc e = true → chkSs T a sc r = true → C) : C := by
  cases ss with
  | nil => exact no_true h
  | cons e r => exact band2 h (K e r rfl)
theorem try_shape {C : Prop} {j k a m : Nat} (h : chkS T (.try1 i j l k a m) sc s = true) (K : ∀ o n p2 args p p3 q1 q2 q3 cn p4 x p5 at_ p6 y p7 p8 q4 q5 q6 p9 p10 p11 p12, s = .Try [.Expr (.Call (.Attribute o n p2) args [] p) p3, .Return (some (.Constant (.bool false) q1 q2)) q3]     [.ExceptHandler (some (.Name cn p4)) (some x) [.If (.Compare (.Attribute (.Name x p5) at_ p6) [.NotEq] [.Name y p7] p8) [.Return (some (.Constant (.bool false) q4 q5)) q6] [] p9] p10] [] [] p11 → p12 = p11 →   chkE T i sc o = true → attrIx T.at_ n 0 = some j → chkEs T l sc args = true → idxOf x sc.names 0 = some (k, .local) → idxOf y sc.names 0 = some (m, .local) → attrIx T.at_ at_ 0 = some a → (∃ z, idxOf cn sc.names 0 = some (z, .globalImplicit)) →   cn = ("PrologError" : Str) → noSup o = true → p2.endLine = p.line → args.length < 28 → (x == ("__debug__" : Str)) = false → (y == ("__debug__" : Str)) = false → C) : C :=
  tTry_inv h fun b hs o z p11 e0 h => band4 h fun h1 h2 h3 h => oany h3 fun hd h4 h5 => oany h fun b h6 h => band2 h fun h7 h => tExpr_inv h fun e p3 e1 h => retF_eq h7 fun q1 q2 q3 e2 =>
    armOk_eq h5 fun cn p4 x p5 at_ p6 y p7 p8 q4 q5 q6 p9 p10 e3 a1 a2 a3 a4 a5 a6 a7 => inv_mcall h fun o n p2 args p e4 b1 b2 b3 b4 b5 b6 =>
      K o n p2 args p p3 q1 q2 q3 cn p4 x p5 at_ p6 y p7 p8 q4 q5 q6 p9 p10 p11 p11 (by rw [e0, two_eq h6, e1, e4, one_eq h4, e3, emp h1, emp h2, (List.cons.inj e2).1]) rfl b1 b2 b3 a1 a2 a3 a4 a5 b4 b5 b6 a6 a7
end
end Mine.Internal
end
section
open PySem PySem.W PySem.Calls PyProof.Rows
namespace Mine.Internal

/-! tests on values and data of the model -/
noncomputable def wInt (v : Value) (f : Int → Tok → Bool) : Bool := if h : v.ctorIdx = 4 then Value.int.elim v h f else false
theorem wInt_inv {v : Value} {f : Int → Tok → Bool} {C : Prop} (h : wInt v f = true) (K : ∀ i t, v = .int i t → f i t = true → C) : C :=
  bdite h fun k h => Value.int.elim (motive := fun v' => ∀ k : v'.ctorIdx = 4, v = v' → Value.int.elim v' k f = true → C) v k (fun i t ζ => K i t) k rfl h
noncomputable def wStr (v : Value) (f : Str → Tok → Bool) : Bool := if h : v.ctorIdx = 6 then Value.str.elim v h f else false
theorem wStr_inv {v : Value} {f : Str → Tok → Bool} {C : Prop} (h : wStr v f = true) (K : ∀ i t, v = .str i t → f i t = true → C) : C :=
  bdite h fun k h => Value.str.elim (motive := fun v' => ∀ k : v'.ctorIdx = 6, v = v' → Value.str.elim v' k f = true → C) v k (fun i t ζ => K i t) k rfl h
noncomputable def wRef (v : Value) (f : Addr → Bool) : Bool := if h : v.ctorIdx = 10 then Value.ref.elim v h f else false
theorem wRef_inv {v : Value} {f : Addr → Bool} {C : Prop} (h : wRef v f = true) (K : ∀ i, v = .ref i → f i = true → C) : C :=
  bdite h fun k h => Value.ref.elim (motive := fun v' => ∀ k : v'.ctorIdx = 10, v = v' → Value.ref.elim v' k f = true → C) v k (fun i ζ => K i) k rfl h
noncomputable def dSeq (d : Data) (f : Array Value → Nat → Bool) : Bool := if h : d.ctorIdx = 2 then Data.seq.elim d h f else false
theorem dSeq_inv {d : Data} {f : Array Value → Nat → Bool} {C : Prop} (h : dSeq d f = true) (K : ∀ i t, d = .seq i t → f i t = true → C) : C :=
  bdite h fun k h => Data.seq.elim (motive := fun v' => ∀ k : v'.ctorIdx = 2, d = v' → Data.seq.elim v' k f = true → C) d k (fun i t ζ => K i t) k rfl h
noncomputable def dCls (d : Data) (f : ClassData → Bool) : Bool := if h : d.ctorIdx = 8 then Data.cls.elim d h f else false
theorem dCls_inv {d : Data} {f : ClassData → Bool} {C : Prop} (h : dCls d f = true) (K : ∀ i, d = .cls i → f i = true → C) : C :=
  bdite h fun k h => Data.cls.elim (motive := fun v' => ∀ k : v'.ctorIdx = 8, d = v' → Data.cls.elim v' k f = true → C) d k (fun i ζ => K i) k rfl h
noncomputable def dDict (d : Data) (f : Array DictEntry → Nat → Bool) : Bool := if h : d.ctorIdx = 3 then Data.dict.elim d h f else false
theorem dDict_inv {d : Data} {f : Array DictEntry → Nat → Bool} {C : Prop} (h : dDict d f = true) (K : ∀ i t, d = .dict i t → f i t = true → C) : C :=
  bdite h fun k h => Data.dict.elim (motive := fun v' => ∀ k : v'.ctorIdx = 3, d = v' → Data.dict.elim v' k f = true → C) d k (fun i t ζ => K i t) k rfl h
theorem all_at {l : List Bool} (h : (l.all fun b => b) = true) (i : Nat) {b : Bool} (e : l[i]? = some b) : b = true := List.all_eq_true.mp h b (List.mem_of_getElem? e)
/-! what a look at a value tells -/
section
variable {μ : Nat → Addr} {n : Nat} {h : Heap} {x : V} {v : Value} {vs : List V} {vs' : List Value} {C : Prop}
@[elab_as_elim] theorem int_out {M : V → Value → Prop} {F : Int → Prop} (r : VRel μ n h x v) (q : intV x F) (K : ∀ i t, F i → M (.int i) (.int i t)) : M x v := by
  cases x with
  | int i => obtain ⟨t, rfl⟩ := r; exact K i t q
  | _ => exact False.elim q
@[elab_as_elim] theorem bool_out {M : V → Value → Prop} {F : Bool → Prop} (r : VRel μ n h x v) (q : boolV x F) (K : ∀ i, F i → M (.bool i) (.bool i)) : M x v := by
  cases x with
  | bool i => exact (show v = .bool i from r) ▸ K i q
  | _ => exact False.elim q
@[elab_as_elim] theorem str_out {M : V → Value → Prop} {F : Str → Prop} (r : VRel μ n h x v) (q : strV x F) (K : ∀ i t, F i → M (.str i) (.str i t)) : M x v := by
  cases x with
  | str i => obtain ⟨t, rfl⟩ := r; exact K i t q
  | _ => exact False.elim q
@[elab_as_elim] theorem obj_out {M : V → Value → Prop} {F : Nat → Prop} (r : VRel μ n h x v) (q : objV x F) (K : ∀ i, F i → M (.obj i) (.ref (μ (2 * i)))) : M x v := by
  cases x with
  | obj i => exact r.2 ▸ K i q
  | _ => exact False.elim q
@[elab_as_elim] theorem tup_rel {l : List V} {P : Value → Prop} (r : VRel μ n h (.tup l) v) (K : ∀ a xs k, h.get? a = some (tobj xs k) → VsRel μ n h l xs.toList → P (.ref a)) : P v := by
  obtain ⟨a, xs, k, rfl, g, r⟩ := r
  exact K a xs k g r
@[elab_as_elim] theorem int_rel {i : Int} {P : Value → Prop} (r : VRel μ n h (.int i) v) (K : ∀ t, P (.int i t)) : P v := by
  obtain ⟨t, rfl⟩ := r
  exact K t
@[elab_as_elim] theorem str_rel {i : Str} {P : Value → Prop} (r : VRel μ n h (.str i) v) (K : ∀ t, P (.str i t)) : P v := by
  obtain ⟨t, rfl⟩ := r
  exact K t
@[elab_as_elim] theorem obj_rel {i : Nat} {P : Value → Prop} (r : VRel μ n h (.obj i) v) (K : P (.ref (μ (2 * i)))) : P v := r.2 ▸ K
@[elab_as_elim] theorem rng_rel {a b : Int} {P : Value → Prop} (r : VRel μ n h (.rng a b) v) (K : ∀ r t u z, IsRange h r a b 1 t u z → a.natAbs < 2 ^ 60 → b.natAbs < 2 ^ 60 → P (.ref r)) : P v := by
  obtain ⟨r, t, u, z, rfl, h1, h2, h3⟩ := r
  exact K r t u z h1 h2 h3
theorem some_out {α : Type} {o : Option α} {F : α → Prop} (q : someV o F) (K : ∀ a, o = some a → F a → C) : C := by
  cases o with
  | none => exact False.elim q
  | some a => exact K a rfl q
@[elab_as_elim] theorem one_out {N : List V → List Value → Prop} {F : V → Prop} (r : VsRel μ n h vs vs') (q : one1 vs F) (K : ∀ x v, VRel μ n h x v → F x → N [x] [v]) : N vs vs' := by
  cases vs with
  | nil => exact False.elim q
  | cons x vs => cases vs with
    | cons _ _ => exact False.elim q
    | nil => exact cons_rel (P := N [x]) r fun w ws r1 r2 => nil_rel (P := fun l => N [x] (w :: l)) r2 (K x w r1 q)
@[elab_as_elim] theorem two_out {N : List V → List Value → Prop} {F : V → V → Prop} (r : VsRel μ n h vs vs') (q : two2 vs F) (K : ∀ x v y w, VRel μ n h x v → VRel μ n h y w → F x y → N [x, y] [v, w]) : N vs vs' := by
  cases vs with
  | nil => exact False.elim q
  | cons x vs => exact cons_rel (P := N (x :: vs)) r fun w ws r1 r2 => one_out (N := fun vs ws => N (x :: vs) (w :: ws)) r2 q fun y u r3 q => K x w y u r1 r3 q
end
/-! what a look at an object tells -/
section
variable {c : Cx} {μ : Nat → Addr} {σ : St} {s : Shared} {i : Nat} {C : Prop}
theorem listO_out {F : List V → Prop} (q : Op (listO i σ F)) (K : ∀ l, σ.get i = some (.list l) → F l → C) : C :=
  some_out q.out fun o g q => by
    cases o with
    | list l => exact K l g q
    | _ => exact False.elim q
theorem dictO_out {F : List (V × V) → Prop} (q : Op (dictO i σ F)) (K : ∀ l, σ.get i = some (.dict l) → F l → C) : C :=
  some_out q.out fun o g q => by
    cases o with
    | dict l => exact K l g q
    | _ => exact False.elim q
theorem instO_out {F : Nat → List (Nat × V) → Prop} (q : Op (instO i σ F)) (K : ∀ c fs, σ.get i = some (.inst c fs) → F c fs → C) : C :=
  some_out q.out fun o g q => by
    cases o with
    | inst c fs => exact K c fs g q
    | _ => exact False.elim q
theorem excO_out {E : Nat → V → Prop} (q : Op (excO i σ E)) (K : ∀ b, σ.get i = some (.exc b) → E i b → C) : C :=
  some_out q.out fun o g q => by
    cases o with
    | exc b => exact K b g q
    | _ => exact False.elim q
theorem list_out {F : List V → Prop} (R : Rel c μ σ s) (q : Op (listO i σ F)) (K : ∀ l xs k, σ.get i = some (.list l) → s.heap.get? (μ (2 * i)) = some (lobj xs k) → VsRel μ σ.len s.heap l xs.toList → F l → C) : C :=
  listO_out q fun l g q => let ⟨xs, k, g', r⟩ := R.obj _ _ g; K l xs k g g' r q
end
end Mine.Internal
end
section
open PySem PySem.W PySem.Calls PyProof.Rows
namespace Mine.Internal

structure Cy extends Cx where
  T : CT
  mg : Str → Option Value
  mb : Str → Option Value
  fa : Nat → Addr

structure COk (c : Cy) : Prop where
  K : c.K.In c.B
  g : c.B.Ns mainGlobals c.mg
  b : c.B.Ns builtinsNs c.mb
  lim : c.B.NoLimit
  gval : ∀ x v, globOf c.T x = some (.val v) → ∃ v', c.mg x = some v' ∧ ∀ μ n, VRel μ n c.B v v'

structure EnvOk (c : Cy) (env : Env) : Prop where
  kind : env.scope.kind = .function
  globals : env.globals = mainGlobals
  builtins : env.builtins = builtinsNs
  nodup : (env.scope.names.map (·.1)).Nodup
  apart : env.cells.Pairwise fun x y => x.2 ≠ y.2
  offL : ∀ x a, (x, a) ∈ env.cells → a ≠ env.locals
  hiL : c.B.get? env.locals = none
  hiC : ∀ x a, (x, a) ∈ env.cells → c.B.get? a = none

structure LRel (env : Env) (ℓ : Loc) (μ : Nat → Addr) (σ : St) (h : Heap) : Prop where
  ns : ∃ m, h.Ns env.locals m ∧ ∀ i x v, env.scope.names[i]? = some (x, .local) → ℓ i = some v → ∃ v', m x = some v' ∧ VRel μ σ.len h v v'
  cell : ∀ i x k, env.scope.names[i]? = some (x, k) → (k = .cell ∨ k = .free) → ∃ a u, env.cells.lookup x = some a ∧ h.IsCell a u ∧ ∀ v, ℓ i = some v → ∃ v', u = some v' ∧ VRel μ σ.len h v v'
  offL : ∀ j, Used σ j → μ j ≠ env.locals
  offC : ∀ x a, (x, a) ∈ env.cells → ∀ j, Used σ j → μ j ≠ a
  there : ∀ x a, (x, a) ∈ env.cells → ∃ u, h.IsCell a u

structure Room (A : Around) (D : Nat) : Prop where
  handled : A.handled = none
  depth : A.depth + 5 * D + 10 < recursionLimit
  units : A.units + 60 * D + 80 < 9900

set_option genInjectivity false
set_option genSizeOf false
inductive PostE (c : Cx) (μ : Nat → Addr) (σ : St) (h : Heap) (Q : V → St → Prop) (v' : Value) (s' : Shared) : Prop
  | mk (μ' : Nat → Addr) (σ' : St) (v : V) (q : Q v σ') (R : Rel c μ' σ' s') (S : Step noP μ σ h μ' σ' s'.heap) (r : VRel μ' σ'.len s'.heap v v')
inductive PostU (c : Cx) (μ : Nat → Addr) (σ : St) (h : Heap) (Q : St → Prop) (s' : Shared) : Prop
  | mk (μ' : Nat → Addr) (σ' : St) (q : Q σ') (R : Rel c μ' σ' s') (S : Step noP μ σ h μ' σ' s'.heap)
inductive PostEs (c : Cx) (μ : Nat → Addr) (σ : St) (h : Heap) (Q : List V → St → Prop) (vs' : List Value) (s' : Shared) : Prop
  | mk (μ' : Nat → Addr) (σ' : St) (vs : List V) (q : Q vs σ') (R : Rel c μ' σ' s') (S : Step noP μ σ h μ' σ' s'.heap) (r : VsRel μ' σ'.len s'.heap vs vs')
noncomputable abbrev Never : Value → Shared → Prop := fun ζ ζ => False

section
variable {c : Cy} {μ μ' : Nat → Addr} {σ σ' : St} {s s' : Shared} {h h' : Heap} {P : Addr → Prop} {n n' : Nat} {env : Env} {A : Around} {ℓ : Loc} {E : Value → Shared → Prop}

theorem PostE.from_ {Q : V → St → Prop} {v : Value} (S : Step noP μ σ h μ' σ' h') (p : PostE c.toCx μ' σ' h' Q v s') : PostE c.toCx μ σ h Q v s' :=
  let ⟨μ₂, σ₂, x, q, R, S', r⟩ := p; ⟨μ₂, σ₂, x, q, R, S.trans S', r⟩
theorem PostU.from_ {Q : St → Prop} (S : Step noP μ σ h μ' σ' h') (p : PostU c.toCx μ' σ' h' Q s') : PostU c.toCx μ σ h Q s' :=
  let ⟨μ₂, σ₂, q, R, S'⟩ := p; ⟨μ₂, σ₂, q, R, S.trans S'⟩
theorem PostEs.from_ {Q : List V → St → Prop} {v : List Value} (S : Step noP μ σ h μ' σ' h') (p : PostEs c.toCx μ' σ' h' Q v s') : PostEs c.toCx μ σ h Q v s' :=
  let ⟨μ₂, σ₂, x, q, R, S', r⟩ := p; ⟨μ₂, σ₂, x, q, R, S.trans S', r⟩
theorem PostE.now {Q : V → St → Prop} {x : V} {v : Value} (R : Rel c.toCx μ σ s) (r : VRel μ σ.len s.heap x v) (q : Q x σ) : PostE c.toCx μ σ s.heap Q v s := ⟨μ, σ, x, q, R, Step.refl .., r⟩
/- the same heap, other tokens -/
theorem PostE.tok {Q : V → St → Prop} {x : V} {v : Value} {tk : Nat} (R : Rel c.toCx μ σ s) (r : VRel μ σ.len s.heap x v) (q : Q x σ) : PostE c.toCx μ σ s.heap Q v { s with toks := tk } := ⟨μ, σ, x, q, R.tok, Step.refl .., r⟩

theorem PostE.int {Q : V → St → Prop} {i : Int} {t : Tok} {tk : Nat} (R : Rel c.toCx μ σ s) (q : Q (.int i) σ) : PostE c.toCx μ σ s.heap Q (.int i t) { s with toks := tk } := PostE.tok R (x := .int i) ⟨_, rfl⟩ q
theorem PostE.str {Q : V → St → Prop} {i : Str} {t : Tok} {tk : Nat} (R : Rel c.toCx μ σ s) (q : Q (.str i) σ) : PostE c.toCx μ σ s.heap Q (.str i t) { s with toks := tk } := PostE.tok R (x := .str i) ⟨_, rfl⟩ q
theorem PostE.bool {Q : V → St → Prop} {b : Bool} (R : Rel c.toCx μ σ s) (q : Q (.bool b) σ) : PostE c.toCx μ σ s.heap Q (.bool b) s := PostE.now R (x := .bool b) rfl q
theorem PostE.none {Q : V → St → Prop} (R : Rel c.toCx μ σ s) (q : Q .none σ) : PostE c.toCx μ σ s.heap Q .none s := PostE.now R (x := .none) rfl q

theorem LRel.step (L : LRel env ℓ μ σ s.heap) (R : Rel c.toCx μ σ s) (S : Step noP μ σ s.heap μ' σ' h') : LRel env ℓ μ' σ' h' := by
  have k := S.tkeep0 R
  have keepN : ∀ {a : Addr} {o : Obj}, s.heap.get? a = some o → (∀ j, Used σ j → μ j ≠ a) → h'.get? a = some o := fun e t => S.keep _ _ e t (fun p => p)
  obtain ⟨m, hm, hv⟩ := L.ns
  refine ⟨⟨m, ?_, fun i x v e g => ?_⟩, fun i x kd e hk => ?_, fun j u => ?_, fun x a hm' j u => ?_, fun x a hm' => ?_⟩
  · obtain ⟨o, es, ep, ho, r⟩ := hm
    exact ⟨o, es, ep, keepN ho L.offL, r⟩
  · obtain ⟨v', h1, h2⟩ := hv i x v e g
    exact ⟨v', h1, h2.mono S.len S.even k⟩
  · obtain ⟨a, u, h1, ⟨o, ho, hd⟩, h3⟩ := L.cell i x kd e hk
    refine ⟨a, u, h1, ⟨o, keepN ho (L.offC x a (mem_of_lookup h1)), hd⟩, fun v g => ?_⟩
    obtain ⟨v', q1, q2⟩ := h3 v g
    exact ⟨v', q1, q2.mono S.len S.even k⟩
  · by_cases q : Used σ j
    · rw [S.same j q]; exact L.offL j q
    · intro e; have z := S.fresh j u q; obtain ⟨o, _, _, ho, _⟩ := hm; rw [e, ho] at z; cases z
  · by_cases q : Used σ j
    · rw [S.same j q]; exact L.offC x a hm' j q
    · obtain ⟨_, hc⟩ := L.there x a hm'
      intro e; have z := S.fresh j u q; obtain ⟨o, ho, _⟩ := hc; rw [e, ho] at z; cases z
  · obtain ⟨u, o, ho, hd⟩ := L.there x a hm'
    exact ⟨u, o, keepN ho (L.offC x a hm'), hd⟩

set_option tactic.hygienic true in
theorem idxOf_get : ∀ {names : List (Str × NameKind)} {x : Str} {n i : Nat} {k : NameKind}, idxOf x names n = some (i, k) → n ≤ i ∧ names[i - n]? = some (x, k)
  | [], _, _, _, _, e => by cases e
  | (y, k) :: r, x, n, i, k', e => by
    unfold idxOf at e
    split at e
    · rename_i q; cases e; exact ⟨Nat.le_refl _, by simp [q]⟩
    · obtain ⟨a, b⟩ := idxOf_get e
      refine ⟨by omega, ?_⟩
      rw [show i - n = (i - (n + 1)) + 1 by omega]
      simpa using b
theorem lookup_of_get : ∀ {names : List (Str × NameKind)} {x : Str} {i : Nat} {k : NameKind}, (names.map (·.1)).Nodup → names[i]? = some (x, k) → names.lookup x = some k
  | [], _, _, _, _, e => by simp at e
  | (y, k) :: r, x, 0, k', _, e => by simp at e; obtain ⟨rfl, rfl⟩ := e; simp [List.lookup_cons]
  | (y, k) :: r, x, i + 1, k', hn, e => by
    rw [List.map_cons, List.nodup_cons] at hn
    have e' : r[i]? = some (x, k') := by simpa using e
    have hm : x ∈ r.map (·.1) := List.mem_map.mpr ⟨(x, k'), List.mem_of_getElem? e', rfl⟩
    have : (x == y) = false := by
      cases q : x == y with
      | false => rfl
      | true => exact absurd (by rw [← beq_iff_eq.mp q]; exact hm) hn.1
    rw [List.lookup_cons, this]
    exact lookup_of_get hn.2 e'
theorem EnvOk.kindOf (O : EnvOk c env) {x : Str} {i : Nat} {k : NameKind} (e : idxOf x env.scope.names 0 = some (i, k)) : env.scope.names[i]? = some (x, k) ∧ env.kindOf x = some k := by
  have := (idxOf_get e).2
  rw [Nat.sub_zero] at this
  exact ⟨this, lookup_of_get O.nodup this⟩

theorem VRel.up (hk : c.B.StaysIn h) {x : V} {v : Value} (r : ∀ μ n, VRel μ n c.B x v) : VRel μ n h x v := (r μ n).mono (Nat.le_refl _) (fun ζ ζ => rfl) (TKeep.of_keeps hk)

theorem sE_loc {x : Str} {p : Pos} {i : Nat} {k : NameKind} {Q : V → St → Prop} (O : EnvOk c env) (R : Rel c.toCx μ σ s) (L : LRel env ℓ μ σ s.heap) (e : idxOf x env.scope.names 0 = some (i, k)) (hk : isLoc k = true)
    (hd : (x == ("__debug__" : Str)) = false) (hc : (x == ("__classdict__" : Str)) = false) (q : someV (ℓ i) fun v => Q v σ) : wpAny c.M A (eval (.Name x p) env) (PostE c.toCx μ σ s.heap Q) E s := by
  obtain ⟨g, kd⟩ := O.kindOf e
  cases hv : ℓ i with
  | none => rw [hv] at q; exact q.elim
  | some v =>
    rw [hv] at q
    refine wpAny_Name ?_ hd
    cases k with
    | «local» =>
      obtain ⟨m, hm, hr⟩ := L.ns
      obtain ⟨v', h1, h2⟩ := hr i x v g hv
      exact wpAny_loadName_local O.kind kd hm h1 (PostE.now R h2 q)
    | cell =>
      obtain ⟨a, u, h1, h2, h3⟩ := L.cell i x _ g (.inl rfl)
      obtain ⟨v', rfl, h4⟩ := h3 v hv
      exact wpAny_loadName_cell O.kind kd h1 h2 (PostE.now R h4 q)
    | free =>
      obtain ⟨a, u, h1, h2, h3⟩ := L.cell i x _ g (.inr rfl)
      obtain ⟨v', rfl, h4⟩ := h3 v hv
      exact wpAny_loadName_free O.kind kd h1 h2 (PostE.now R h4 q) hc
    | globalExplicit => cases hk
    | globalImplicit => cases hk

/- a name of the module's, or a built-in one -/
theorem load_glob {x : Str} {i : Nat} {v : Value} {Q : Value → Shared → Prop} (O : EnvOk c env) (C : COk c) (R : Rel c.toCx μ σ s) (e : idxOf x env.scope.names 0 = some (i, .globalImplicit)) (hv : c.mg x = some v ∨ (c.mg x = none ∧ c.mb x = some v))
    (q : Q v s) : wpAny c.M A (loadName env x) Q E s := by
  obtain ⟨_, kd⟩ := O.kindOf e
  have hg := C.g.keeps R.keep
  have hb := C.b.keeps R.keep
  unfold loadName
  simp only [Env.blockKind, O.kind, kd, ScopeKind.isAnnotationScope, Bool.false_and, Bool.false_eq_true, if_false]
  unfold loadGlobal
  rw [O.globals, O.builtins]
  refine wpAny_bind (wpAny_nsGet hg ?_)
  rcases hv with hv | ⟨hv, hv'⟩
  · rw [hv]; exact wpAny_pure q
  · rw [hv]
    refine wpAny_bind (wpAny_nsGet hb ?_)
    rw [hv']; exact wpAny_pure q

theorem sE_glob {x : Str} {p : Pos} {i : Nat} {v : V} {Q : V → St → Prop} (O : EnvOk c env) (C : COk c) (R : Rel c.toCx μ σ s) (e : idxOf x env.scope.names 0 = some (i, .globalImplicit)) (hd : (x == ("__debug__" : Str)) = false)
    (hg : globOf c.T x = some (.val v)) (q : Q v σ) : wpAny c.M A (eval (.Name x p) env) (PostE c.toCx μ σ s.heap Q) E s := by
  obtain ⟨v', h1, h2⟩ := C.gval x v hg
  exact wpAny_Name (load_glob O C R e (.inl h1) (PostE.now R (VRel.up R.keep h2) q)) hd

theorem sE_const {k : Const} {n : Nat} {p : Pos} {v : V} {Q : V → St → Prop} (R : Rel c.toCx μ σ s) (e : constV k = some v) (q : Q v σ) : wpAny c.M A (eval (.Constant k n p) env) (PostE c.toCx μ σ s.heap Q) E s := by
  show wpAny _ _ (constValue env k) _ _ _
  cases k with
  | none => cases e; exact wpAny_pure (PostE.none R q)
  | bool b => cases e; exact wpAny_pure (PostE.bool R q)
  | int i => cases e; exact wpAny_mkInt (PostE.int R q)
  | str x => cases e; exact wpAny_mkText (PostE.str R q)
  | _ => cases e

theorem wp_post {t : Sem Value} {Q Q' : V → St → Prop} (hw : wpAny c.M A t (PostE c.toCx μ σ s.heap Q) E s) (k : ∀ v σ, Q v σ → Q' v σ) : wpAny c.M A t (PostE c.toCx μ σ s.heap Q') E s :=
  wpAny_mono hw (fun ζ ζ z => let ⟨μ₂, σ₂, x, q, R, S, r⟩ := z; ⟨μ₂, σ₂, x, k _ _ q, R, S, r⟩) fun ζ ζ e => e

theorem sE_neg {x : Expr} {p : Pos} {Q : V → St → Prop} (hw : wpAny c.M A (eval x env) (PostE c.toCx μ σ s.heap fun v σ => intV v fun i => Q (.int (-i)) σ) E s) :
    wpAny c.M A (eval (.UnaryOp .USub x p) env) (PostE c.toCx μ σ s.heap Q) E s := by
  exact wpAny_UnaryOp (wpAny_mono hw (fun v s₁ ⟨μ₁, σ₁, y, q, R, S, r⟩ => int_out r q fun i t q => neg_int (PostE.from_ S (PostE.int R q))) fun ζ ζ e => e)

theorem sE_not {x : Expr} {p : Pos} {Q : V → St → Prop} (hw : wpAny c.M A (eval x env) (PostE c.toCx μ σ s.heap fun v σ => boolV v fun b => Q (.bool (!b)) σ) E s) :
    wpAny c.M A (eval (.UnaryOp .Not x p) env) (PostE c.toCx μ σ s.heap Q) E s := by
  exact wpAny_UnaryOp (wpAny_mono hw (fun v s₁ ⟨μ₁, σ₁, y, q, R, S, r⟩ => bool_out r q fun b q => not_of (wpAny_truthy_bool (PostE.from_ S (PostE.bool R q)))) fun ζ ζ e => e)

theorem mulOk {i j : Int} (h : j.natAbs < 2 ^ 62) : IntMulOk i j := IntMulOk.of_right (PySem.intBits_le_64 (by omega) (by omega))
theorem lt30 {j : Int} (h : 0 < j) (h2 : j < 2 ^ 30) : j.natAbs < 1073741824 := by omega
theorem bin_op {op : Operator} {x y : V} {a b : Value} {Q : V → St → Prop} (R : Rel c.toCx μ σ s) (rx : VRel μ σ.len s.heap x a) (ry : VRel μ σ.len s.heap y b) (q : binV op x y fun v => Q v σ) :
    wpAny c.M A (binaryOp op a b) (PostE c.toCx μ σ s.heap Q) E s := by
  refine int_out rx q fun i t q => int_out ry q fun j u q => ?_
  cases op with
  | Add => exact add_int (PostE.int R q)
  | Sub => exact sub_int (PostE.int R q)
  | Mult => exact mul_int (PostE.int R q.2) (mulOk q.1.2)
  | FloorDiv => exact floordiv_int (Int.ne_of_gt q.1.1) (PostE.int R q.2) (.inl (PyProof.noPylong_small (lt30 q.1.1 q.1.2)))
  | Mod => exact mod_int' (Int.ne_of_gt q.1.1) (PostE.int R q.2)
  | _ => exact False.elim q

theorem sE_bin {x y : Expr} {op : Operator} {p : Pos} {Q : V → St → Prop} (hw : wpAny c.M A (eval x env) (fun a s₁ => wpAny c.M A (eval y env) (fun b s₂ => wpAny c.M A (binaryOp op a b) (PostE c.toCx μ σ s.heap Q) E s₂) E s₁) E s) :
    wpAny c.M A (eval (.BinOp x op y p) env) (PostE c.toCx μ σ s.heap Q) E s := wpAny_BinOp hw

/- a step, and from there on -/
theorem then_ {t : Sem Value} {Q : V → St → Prop} {K : Value → Shared → Prop} (L : LRel env ℓ μ σ s.heap) (R : Rel c.toCx μ σ s) (hw : wpAny c.M A t (PostE c.toCx μ σ s.heap Q) E s)
    (k : ∀ v s₁ μ₁ σ₁ x, Q x σ₁ → Rel c.toCx μ₁ σ₁ s₁ → Step noP μ σ s.heap μ₁ σ₁ s₁.heap → VRel μ₁ σ₁.len s₁.heap x v → LRel env ℓ μ₁ σ₁ s₁.heap → K v s₁) : wpAny c.M A t K E s :=
  wpAny_mono hw (fun v s₁ ⟨μ₁, σ₁, x, q, R₁, S, r⟩ => k v s₁ μ₁ σ₁ x q R₁ S r (L.step R S)) fun ζ ζ e => e
end
end Mine.Internal
end
section
open PySem PySem.W PySem.Calls PyProof.Rows
namespace Mine.Internal

section
variable {μ : Nat → Addr} {n : Nat} {h : Heap}
mutual
theorem reads_of : ∀ {x : V} {v : Value}, isT x = true → VRel μ n h x v → ∃ as, Reads h v (toP x) as
  | .none, v, _, r => ⟨[], by rw [show v = .none from r]; exact .none⟩
  | .bool b, v, _, r => ⟨[], by rw [show v = .bool b from r]; exact .bool b⟩
  | .int i, _, _, ⟨t, e⟩ => ⟨[], by rw [e]; exact .int i t⟩
  | .str i, _, _, ⟨t, e⟩ => ⟨[], by rw [e]; exact .str i t⟩
  | .tup l, _, ht, ⟨a, xs, k, e, g, r⟩ => by
    obtain ⟨as, q⟩ := readsAll_of (x := l) (by simpa [isT] using ht) r
    exact ⟨as, by rw [e]; exact .tuple g rfl rfl q⟩
  | .obj _, _, ht, _ => by cases ht
  | .rng _ _, _, ht, _ => by cases ht
theorem readsAll_of : ∀ {x : List V} {v : List Value}, isTs x = true → VsRel μ n h x v → ∃ as, ReadsAll h v (toPs x) as
  | [], _, _, r => ⟨[], by rw [show _ = [] from r]; exact .nil⟩
  | y :: l, _, ht, ⟨v, ws, e, a, r⟩ => by
    simp only [isTs, Bool.and_eq_true] at ht
    obtain ⟨as, q⟩ := reads_of ht.1 a
    obtain ⟨bs, q2⟩ := readsAll_of ht.2 r
    exact ⟨as ++ bs, by rw [e]; exact .cons q q2⟩
end
end

section
variable {c : Cy} {μ μ' : Nat → Addr} {σ σ' : St} {s s' : Shared} {h h' : Heap} {P : Addr → Prop} {n n' : Nat} {env : Env} {A : Around} {ℓ : Loc} {E : Value → Shared → Prop} {D : Nat}

theorem ite_some {α : Type} {b : Bool} {a d : α} {C : Prop} (h : (if b then some a else none) = some d) (K : b = true → a = d → C) : C := by
  cases b with
  | false => exact no_some h
  | true => exact K rfl (sinj h)
theorem dat_reads (R : Rel c.toCx μ σ s) {x : V} {v : Value} {d : PyData} (r : VRel μ σ.len s.heap x v) (e : datV x σ = some d) : (∃ as, Reads s.heap v d as) ∧ SeqAt.shaped d = true := by
  have tree : datT x = some d → (∃ as, Reads s.heap v d as) ∧ SeqAt.shaped d = true := fun e =>
    ite_some e fun h e => band2 h fun h1 h2 => ⟨e ▸ reads_of h1 r, e ▸ h2⟩
  cases x with
  | obj i =>
    obtain ⟨o, g, e⟩ := Option.bind_eq_some_iff.mp (show ((σ.get i).bind fun o => o.lst.bind datL) = some d from e)
    cases o with
    | list l =>
      exact ite_some e fun h e => band2 h fun h1 h2 => by
        obtain ⟨xs, k, g', r'⟩ := R.obj _ _ g
        obtain ⟨as, q2⟩ := readsAll_of h1 r'
        subst e
        obtain ⟨_, rfl⟩ := r
        exact ⟨⟨_, .list g' rfl rfl q2⟩, h2⟩
    | _ => exact no_some e
  | _ => exact tree e

theorem byEq {α : Type} {a b : α} {P : α → Prop} (e : a = b) (q : P b) : P a := e ▸ q
theorem eq_op {x y : V} {a b : Value} {t : Bool} (hu : A.units + 64 < cLine) (R : Rel c.toCx μ σ s) (rx : VRel μ σ.len s.heap x a) (ry : VRel μ σ.len s.heap y b) (e : eqV x y σ = some t) {Q : Value → Shared → Prop} (q : Q (.bool t) s) :
    wpAny c.M A (compareOp .Eq a b) Q E s := by
  have dat : eqD x y σ = some t → wpAny c.M A (compareOp .Eq a b) Q E s := fun e => by
    obtain ⟨d1, h1, e⟩ := Option.bind_eq_some_iff.mp (show ((datV x σ).bind fun d => (datV y σ).map fun e => PyData.eqv d e) = some t from e)
    obtain ⟨d2, h2, rfl⟩ := Option.map_eq_some_iff.mp e
    obtain ⟨⟨as, r1⟩, s1⟩ := dat_reads R rx h1
    obtain ⟨⟨bs, r2⟩, s2⟩ := dat_reads R ry h2
    exact eq_dataH r1 r2 s1 s2 hu q
  cases x with
  | int i => cases y with
    | int j => exact int_rel rx fun ζ => int_rel ry fun ζ => eq_int (byEq (P := fun t => Q (.bool t) s) (sinj e) q)
    | _ => exact dat e
  | bool i => cases y with
    | bool j => rw [show a = _ from rx, show b = _ from ry]; exact eq_bool (byEq (P := fun t => Q (.bool t) s) (sinj e) q)
    | _ => exact dat e
  | str i => cases y with
    | str j => exact str_rel rx fun ζ => str_rel ry fun ζ => PyProof.Rows.eq_str (byEq (P := fun t => Q (.bool t) s) (sinj e) q)
    | _ => exact dat e
  | _ => exact dat e
theorem ne_op {x y : V} {a b : Value} {t : Bool} (hu : A.units + 64 < cLine) (R : Rel c.toCx μ σ s) (rx : VRel μ σ.len s.heap x a) (ry : VRel μ σ.len s.heap y b) (e : eqV x y σ = some t) {Q : Value → Shared → Prop} (q : Q (.bool (!t)) s) :
    wpAny c.M A (compareOp .NotEq a b) Q E s := by
  have dat : eqD x y σ = some t → wpAny c.M A (compareOp .NotEq a b) Q E s := fun e => by
    obtain ⟨d1, h1, e⟩ := Option.bind_eq_some_iff.mp (show ((datV x σ).bind fun d => (datV y σ).map fun e => PyData.eqv d e) = some t from e)
    obtain ⟨d2, h2, rfl⟩ := Option.map_eq_some_iff.mp e
    obtain ⟨⟨as, r1⟩, s1⟩ := dat_reads R rx h1
    obtain ⟨⟨bs, r2⟩, s2⟩ := dat_reads R ry h2
    exact ne_dataH r1 r2 s1 s2 hu q
  cases x with
  | int i => cases y with
    | int j => exact int_rel rx fun ζ => int_rel ry fun ζ => ne_int (byEq (P := fun t => Q (.bool !t) s) (sinj e) q)
    | _ => exact dat e
  | bool i => cases y with
    | bool j => rw [show a = _ from rx, show b = _ from ry]; exact ne_bool (byEq (P := fun t => Q (.bool !t) s) (sinj e) q)
    | _ => exact dat e
  | str i => cases y with
    | str j => exact str_rel rx fun ζ => str_rel ry fun ζ => PyProof.Rows.ne_str (byEq (P := fun t => Q (.bool !t) s) (sinj e) q)
    | _ => exact dat e
  | _ => exact dat e

theorem Room.units64 (H : Room A D) : A.units + 64 < cLine := by
  have := H.units
  have : cLine = 9900 := rfl
  omega

theorem none_of {x : V} {v : Value} (r : VRel μ n h x v) : (v == .none) = isNoneV x := by
  cases x with
  | none => rw [show v = .none from r]; rfl
  | bool b => rw [show v = .bool b from r]; rfl
  | int i => exact int_rel r fun ζ => rfl
  | str i => exact str_rel r fun ζ => rfl
  | tup l => exact tup_rel r fun ζ ζ ζ ζ ζ => rfl
  | obj i => exact obj_rel r rfl
  | rng a b => exact rng_rel r fun ζ ζ ζ ζ ζ ζ ζ => rfl
@[elab_as_elim] theorem isNone_out {x : V} {v : Value} {P : Value → Prop} (r : VRel μ n h x v) (e : isNoneV x = true) (K : P .none) : P v := by
  cases x with
  | none => exact (show v = .none from r) ▸ K
  | _ => exact no_true e
theorem is_out {b a t : Bool} {C : Prop} (e : (match b with | true => some a | false => none) = some t) (K : b = true → a = t → C) : C := by
  cases b with
  | false => exact no_some e
  | true => exact K rfl (sinj e)
/- two numbers compared -/
@[elab_as_elim] theorem intB_out {x y : V} {a b : Value} {f : Int → Int → Option Bool} {t : Bool} {M : Value → Value → Prop} (rx : VRel μ n h x a) (ry : VRel μ n h y b) (e : intB x y f = some t) (K : ∀ i u j w, f i j = some t → M (.int i u) (.int j w)) : M a b := by
  cases x with
  | int i => cases y with
    | int j => exact int_rel rx fun u => int_rel ry fun w => K i u j w e
    | _ => exact no_some e
  | _ => exact no_some e

theorem cmp_op {op : CmpOp} {x y : V} {a b : Value} {t : Bool} (H : Room A D) (R : Rel c.toCx μ σ s) (rx : VRel μ σ.len s.heap x a) (ry : VRel μ σ.len s.heap y b) (e : cmpV op x y σ = some t) {Q : V → St → Prop} (q : Q (.bool t) σ) :
    wpAny c.M A (compareOp op a b) (PostE c.toCx μ σ s.heap Q) E s := by
  have hu : A.units + 64 < cLine := H.units64
  have Z := PostE.bool (c := c) R q
  cases op with
  | Eq => exact eq_op hu R rx ry e Z
  | NotEq =>
    cases hq : eqV x y σ with
    | none => exact no_some (show notT none = some t from hq ▸ e)
    | some r => exact ne_op hu R rx ry hq (sinj (show notT (some r) = some t from hq ▸ e) ▸ Z)
  | Lt => exact intB_out rx ry e fun ζ ζ ζ ζ e => lt_int (sinj e ▸ Z)
  | LtE => exact intB_out rx ry e fun ζ ζ ζ ζ e => le_int (sinj e ▸ Z)
  | Gt => exact intB_out rx ry e fun ζ ζ ζ ζ e => gt_int (sinj e ▸ Z)
  | GtE => exact intB_out rx ry e fun ζ ζ ζ ζ e => ge_int (sinj e ▸ Z)
  | Is => exact is_out e fun h e => isNone_out ry h (is_none (by rw [none_of rx, e]; exact Z))
  | IsNot => exact is_out e fun h e => isNone_out ry h (isNot_none (by rw [none_of rx, e]; exact Z))
  | In => exact no_some e
  | NotIn => exact no_some e
end
end Mine.Internal
end
section
open PySem PySem.W PySem.Calls PyProof.Rows
namespace Mine.Internal

theorem atNames_nodup : atNames.Nodup := by decide +kernel
theorem atNames_len : atNames.length = 59 := by decide +kernel
theorem atName_inj {a b : Nat} (ha : a < 59) (hb : b < 59) (e : atName a = atName b) : a = b := by
  unfold atName at e
  rw [← atNames_len] at ha hb
  refine (List.getElem?_inj ha atNames_nodup).mp ?_
  rw [List.getElem?_eq_getElem ha, List.getElem?_eq_getElem hb] at e ⊢
  exact congrArg some e
set_option tactic.hygienic true in
theorem attrIx_go : ∀ {T : List Str} {x : Str} {n j : Nat}, attrIx.go x T n = some j → n ≤ j ∧ T[j - n]? = some x
  | [], _, _, _, e => by cases e
  | y :: r, x, n, j, e => by
    unfold attrIx.go at e
    split at e
    · rename_i q; cases e; exact ⟨Nat.le_refl _, by simp [q]⟩
    · obtain ⟨a, b⟩ := attrIx_go e
      refine ⟨by omega, ?_⟩
      rw [show j - n = (j - (n + 1)) + 1 by omega]
      simpa using b
theorem attrIx_name {x : Str} {j : Nat} (e : attrIx atNames x 0 = some j) : x = atName j ∧ j < 59 := by
  obtain ⟨_, b⟩ := attrIx_go e
  rw [Nat.sub_zero] at b
  refine ⟨by unfold atName; rw [b]; rfl, ?_⟩
  rw [← atNames_len]
  exact (List.getElem?_eq_some_iff.mp b).1

section
variable {c : Cx} {μ : Nat → Addr} {n : Nat} {h : Heap}
theorem isStr_at {a b : Nat} {t : Tok} (ha : a < 59) (hb : b < 59) : (Value.str (atName a) t).isStr (atName b) = decide (a = b) := by
  show (atName a == atName b) = _
  by_cases e : a = b
  · subst e; simp
  · have : atName a ≠ atName b := fun q => e (atName_inj ha hb q)
    simp [e, this]

theorem key_no {e : DictEntry} {x : Str} {t : Tok} (k : e.key = .str x t) : e.refKey = false := by unfold DictEntry.refKey; rw [k]
theorem FsRel.strs {fs : List (Nat × V)} : ∀ {ds : List DictEntry}, FsRel c μ n h fs ds → ∀ e ∈ ds, e.refKey = false := by
  induction fs with
  | nil => intro ds r e he; exact nomatch ((show ds = [] from r) ▸ he)
  | cons f fs ih =>
    intro ds r e he
    revert he
    exact fs_cons r fun d es t k ζ ζ ζ r he => (List.mem_cons.mp he).elim (fun e => e ▸ key_no k) (ih r e)
/- what a field of ours holds, and what the dict of the model does -/
noncomputable def OF (μ : Nat → Addr) (n : Nat) (h : Heap) (o : Option V) (f : Option (Option Value)) : Prop := match o with
  | some x => ∃ e, f = some (some e) ∧ VRel μ n h x e
  | none => f = some none
theorem lget_eq {α : Type} {m : Nat} {v : α} {r : List (Nat × α)} : lget m ((m, v) :: r) = some v := if_pos rfl
theorem lget_ne {α : Type} {m a : Nat} {v : α} {r : List (Nat × α)} (e : ¬ m = a) : lget a ((m, v) :: r) = lget a r := if_neg e
theorem lput_eq {α : Type} {m : Nat} {u v : α} {r : List (Nat × α)} : lput m v ((m, u) :: r) = (m, v) :: r := if_pos rfl
theorem lput_ne {α : Type} {m a : Nat} {u v : α} {r : List (Nat × α)} (e : ¬ m = a) : lput a v ((m, u) :: r) = (m, u) :: lput a v r := if_neg e
theorem FsRel.getL {fs : List (Nat × V)} : ∀ {ds : List DictEntry}, FsRel c μ n h fs ds → ∀ {a : Nat}, a < 59 → OF μ n h (lget a fs) (PySem.W.getL (atName a) ds) := by
  induction fs with
  | nil => intro ds r a _; rw [show ds = [] from r]; rfl
  | cons f fs ih =>
    obtain ⟨m, v⟩ := f
    intro ds r a ha
    refine fs_cons r fun d es t k ζ hm hv r => ?_
    unfold PySem.W.getL
    by_cases e : m = a
    · subst e
      rw [lget_eq, List.find?_cons, k, isStr_at ha ha, decide_eq_true rfl]
      exact ⟨d.val, rfl, hv⟩
    · rw [lget_ne e, List.find?_cons, k, isStr_at (Nat.lt_of_lt_of_le hm (by decide)) ha, decide_eq_false e, List.any_cons, key_no k, Bool.false_or]
      exact ih r ha
theorem FsRel.length {fs : List (Nat × V)} : ∀ {ds : List DictEntry}, FsRel c μ n h fs ds → ds.length = fs.length := by
  induction fs with
  | nil => intro ds r; rw [show ds = [] from r]; rfl
  | cons f fs ih => exact fun r => fs_cons (P := fun ds => ds.length = fs.length + 1) r fun ζ ζ ζ ζ ζ ζ ζ r => congrArg (· + 1) (ih r)
theorem FsRel.putL {a : Nat} {x : V} {v : Value} {t : Tok} (ha : a < 33) (hx : VRel μ n h x v) {fs : List (Nat × V)} : ∀ {ds : List DictEntry}, FsRel c μ n h fs ds →
    FsRel c μ n h (lput a x fs) (PySem.W.putL (atName a) (PyData.keyHash c.w.params (atName a)) (.str (atName a) t) v ds) := by
  induction fs with
  | nil =>
    intro ds r
    rw [show ds = [] from r]
    exact ⟨_, [], t, rfl, rfl, rfl, ha, hx, rfl⟩
  | cons f fs ih =>
    obtain ⟨m, y⟩ := f
    intro ds r
    refine fs_cons r fun d es t' k hh hm hv r => ?_
    unfold PySem.W.putL
    rw [k, isStr_at (Nat.lt_of_lt_of_le hm (by decide)) (Nat.lt_of_lt_of_le ha (by decide))]
    by_cases e : m = a
    · subst e
      rw [lput_eq, decide_eq_true rfl, if_pos rfl]
      exact ⟨_, es, t', rfl, rfl, hh, hm, hx, r⟩
    · rw [lput_ne e, decide_eq_false e, if_neg (by decide)]
      exact ⟨d, _, t', rfl, k, hh, hm, hv, ih r⟩
theorem lput_keys {a : Nat} {x : V} {fs : List (Nat × V)} : (fs.map (·.1)).Nodup → ((lput a x fs).map (·.1)).Nodup ∧ ∀ m, m ∈ (lput a x fs).map (·.1) → m = a ∨ m ∈ fs.map (·.1) := by
  induction fs with
  | nil => intro _; exact ⟨List.nodup_cons.mpr ⟨List.not_mem_nil, List.nodup_nil⟩, fun m hm => .inl (List.mem_singleton.mp hm)⟩
  | cons f fs ih =>
    obtain ⟨m, v⟩ := f
    intro hn
    have hn2 := List.nodup_cons.mp hn
    by_cases e : m = a
    · subst e
      rw [lput_eq]
      exact ⟨hn, fun ζ h => .inr h⟩
    · rw [lput_ne e]
      obtain ⟨h1, h2⟩ := ih hn2.2
      exact ⟨List.nodup_cons.mpr ⟨fun q => (h2 m q).elim e hn2.1, h1⟩, fun k hk => (List.mem_cons.mp hk).elim (fun e => .inr (e ▸ .head _)) fun hk => (h2 k hk).imp id (.tail _)⟩
theorem lput_len {a : Nat} {x : V} {fs : List (Nat × V)} : (lput a x fs).length ≤ fs.length + 1 := by
  induction fs with
  | nil => exact Nat.le_refl _
  | cons f fs ih =>
    obtain ⟨m, v⟩ := f
    by_cases e : m = a
    · subst e; rw [lput_eq]; exact Nat.le_succ _
    · rw [lput_ne e]; exact Nat.succ_le_succ ih
end

noncomputable def fieldB (K : Frag) (C : Addr) (name : Str) : Bool :=
  plainGet K C name && hasDictIn K C && decide (findIn K (.ref C) name = some none) && decide (findIn K (.ref C) "__setattr__" = some (some (.builtin "object.__setattr__"))) && plainOver K C && decide (takerIn K C name = some none)

theorem fieldB_out {K : Frag} {C : Addr} {name : Str} {G : Prop} (h : fieldB K C name = true) (k : plainGet K C name = true → hasDictIn K C = true → findIn K (.ref C) name = some none → findIn K (.ref C) "__setattr__" = some (some (.builtin "object.__setattr__")) → plainOver K C = true → takerIn K C name = some none → G) : G :=
  band6 h fun h1 h2 h3 h4 h5 h6 => k h1 h2 (ctrue h3) (ctrue h4) h5 (ctrue h6)
theorem handed_of {μ : Nat → Addr} {n : Nat} {h : Heap} {x : V} {v : Value} (r : VRel μ n h x v) : handedIn v = true := by
  cases x with
  | none => rw [show v = .none from r]; rfl
  | bool b => rw [show v = .bool b from r]; rfl
  | int i => obtain ⟨t, rfl⟩ := r; rfl
  | str i => obtain ⟨t, rfl⟩ := r; rfl
  | tup l => obtain ⟨a, xs, k, rfl, _⟩ := r; rfl
  | obj i => obtain ⟨_, rfl⟩ := r; rfl
  | rng a b => obtain ⟨a, t, u, z, rfl, _⟩ := r; rfl

structure FOk (c : Cy) : Prop where
  field : ∀ cl m, fieldOk cl m = true → m < 33 ∧ fieldB c.K (c.ca cl) (atName m) = true

section
variable {c : Cy} {μ μ' : Nat → Addr} {σ σ' : St} {s s' : Shared} {h h' : Heap} {P : Addr → Prop} {n n' : Nat} {env : Env} {A : Around} {ℓ : Loc} {E : Value → Shared → Prop} {D : Nat}

theorem inst_at (R : Rel c.toCx μ σ s) {i cl : Nat} {fs : List (Nat × V)} (g : σ.get i = some (.inst cl fs)) : ∃ ds k, InstAt s.heap (μ (2 * i)) (iobj (c.ca cl) (μ (2 * i + 1))) (c.ca cl) (some (dictOf ds k)) ∧
    s.heap.get? (μ (2 * i + 1)) = some (dictOf ds k) ∧ FsRel c.toCx μ σ.len s.heap fs ds ∧ (fs.map (·.1)).Nodup := by
  obtain ⟨q, ds, k, q2, r, hn⟩ := R.obj _ _ g
  exact ⟨ds.toList, k, ⟨q, rfl, rfl, q2⟩, q2, r, hn⟩

theorem attr_op {x : V} {v : Value} {m : Nat} {b : Bool} {Q : V → St → Prop} (C : COk c) (F : FOk c) (R : Rel c.toCx μ σ s) (rx : VRel μ σ.len s.heap x v) (q : attrV x m σ fun y => Q y σ) :
    wpAny c.M A (getAttr v (atName m) b) (PostE c.toCx μ σ s.heap Q) E s := by
  exact obj_out rx q fun i q => instO_out q fun cl fs g q => by
    obtain ⟨ds, k, I, _, r, _⟩ := inst_at R g
    obtain ⟨hm, hb⟩ := F.field cl m q.1
    refine fieldB_out hb fun b1 b2 b3 b4 b5 b6 => some_out q.2 fun y hl q => ?_
    have z := r.getL (a := m) (Nat.lt_of_lt_of_le hm (by decide))
    rw [hl] at z
    obtain ⟨e, h1, h2⟩ := z
    exact get_value (C.K.keeps R.keep) I (plainGet_of b1).1 (findObj_own b2 b3 rfl h1) (handed_of h2) (PostE.tok R h2 q)

theorem setI_op {i cl : Nat} {fs : List (Nat × V)} {y : V} {w : Value} {m : Nat} {Q : St → Prop} (C : COk c) (R : Rel c.toCx μ σ s) (ry : VRel μ σ.len s.heap y w) (g : σ.get i = some (.inst cl fs)) (hz : fs.length < 100) (hm : m < 33) (hb : fieldB c.K (c.ca cl) (atName m) = true)
    (q : Q (σ.put i (.inst cl (lput m y fs)))) : wpAny c.M A (setAttr (.ref (μ (2 * i))) (atName m) w) (fun ζ => PostU c.toCx μ σ s.heap Q) E s := by
  obtain ⟨ds, k, I, gd, r, hn⟩ := inst_at R g
  refine fieldB_out hb fun b1 b2 b3 b4 b5 b6 => ?_
  have X := C.K.keeps R.keep
  obtain ⟨cd, hc, hd'⟩ := any_some b2
  refine set_plain X I b4 (osa_open (s := { s with toks := s.toks + 1 }) X I b5 b6 fun bb => ?_)
  obtain ⟨hx, hcl, hno, -⟩ := I
  refine wpAny_bind (wpAny_pure (wpAny_bind (wpAny_bind (wpAny_loadPart hx (wpAny_bind (looks_clsIn X hc _ _ _ _ (fun ζ ζ e => e) ?_))))))
  rw [hd']
  refine wpAny_pure (a := some (μ (2 * i + 1))) (wpAny_bind (wpAny_pure (wpAny_bind ?_)))
  unfold nsSet
  refine wpAny_bind (wpAny_bind (wpAny_askSetting (wpAny_pure (wpAny_bind (wpAny_mkText (wpAny_bind (wpAny_loadPart gd ?_)))))))
  have nor : (ds.toArray.any fun e => e.refKey) = false := by
    rw [← Array.any_toList]
    exact List.any_eq_false.mpr fun e he => by rw [r.strs e (by simpa using he)]; decide
  dsimp only
  rw [aRefKeyMayBeTheName_at, nor, Bool.and_false]
  refine wpAny_updatePart gd ?_
  have D' := Heap.get?_update_self (Obj.putName (atName m) (PyData.keyHash c.w.params (atName m)) (.str (atName m) (s.toks + 1)) w) gd (by rw [putName_dict]; rfl)
  rw [putName_dict] at D'
  have hs := Heap.SameBut.update s.heap (μ (2 * i + 1)) (Obj.putName (atName m) (PyData.keyHash c.w.params (atName m)) (.str (atName m) (s.toks + 1)) w)
  have R2 := FsRel.putL (a := m) (x := y) (v := w) (t := s.toks + 1) hm ry r
  have tk : TKeep s.heap (s.heap.update (μ (2 * i + 1)) (Obj.putName (atName m) (PyData.keyHash c.w.params (atName m)) (.str (atName m) (s.toks + 1)) w)) := TKeep.of_sameBut hs gd (by simp [Frozen])
  have new : ORel c.toCx μ σ.len (s.heap.update (μ (2 * i + 1)) (Obj.putName (atName m) (PyData.keyHash c.w.params (atName m)) (.str (atName m) (s.toks + 1)) w)) i (.inst cl (lput m y fs)) := by
    refine ⟨?_, _, _, D', R2.mono (Nat.le_refl _) (fun ζ ζ => rfl) tk, (lput_keys hn).1⟩
    refine (hs.2 _ fun e => ?_).trans hx
    have := R.inj _ _ (used_of_get g) (used_odd g rfl) e
    omega
  obtain ⟨R', S'⟩ := R.put g (o' := .inst cl (lput m y fs)) rfl (.inr ⟨rfl, rfl⟩) hs new (tk := s.toks + 1 + 1)
  refine wpAny_bind (wpAny_lookBehind D' (pastItsLine_dict (by
    rw [List.size_toArray, R2.length]
    have := lput_len (fs := fs) (a := m) (x := y)
    have : sizeLine = 16777216 := rfl
    omega)) ?_)
  exact wpAny_pure ⟨μ, _, q, R', S'⟩
theorem setattr_op {x y : V} {v w : Value} {m : Nat} {Q : St → Prop} (C : COk c) (F : FOk c) (R : Rel c.toCx μ σ s) (rx : VRel μ σ.len s.heap x v) (ry : VRel μ σ.len s.heap y w) (q : setattrV x m y σ Q) :
    wpAny c.M A (setAttr v (atName m) w) (fun ζ => PostU c.toCx μ σ s.heap Q) E s :=
  obj_out rx q fun i q => instO_out q fun cl fs g q => setI_op C R ry g q.1.2 (F.field cl m q.1.1).1 (F.field cl m q.1.1).2 q.2
end
end Mine.Internal
end
section
open PySem PySem.W PySem.Calls PyProof.Rows
namespace Mine.Internal

section
variable {K : Type} [DecidableEq K] {enc : K → V} {μ : Nat → Addr} {n : Nat} {h : Heap}
theorem nt {b : Bool} (h : b = false) : ¬ b = true := fun e => no_true (h.symm.trans e)
theorem dget_eq {k x v : V} {r : List (V × V)} (h : eqKey x k = true) : dget k ((x, v) :: r) = some v := if_pos h
theorem dget_ne {k x v : V} {r : List (V × V)} (h : eqKey x k = false) : dget k ((x, v) :: r) = dget k r := if_neg (nt h)
theorem dput_eq {k x v u : V} {r : List (V × V)} (h : eqKey x k = true) : dput k v ((x, u) :: r) = (x, v) :: r := if_pos h
theorem dput_ne {k x v u : V} {r : List (V × V)} (h : eqKey x k = false) : dput k v ((x, u) :: r) = (x, u) :: dput k v r := if_neg (nt h)
/- what a dict of ours gives, and what the dict of the model gives -/
noncomputable def OV (μ : Nat → Addr) (n : Nat) (h : Heap) (o : Option V) (f : Option Value) : Prop := match o with
  | some x => ∃ w, f = some w ∧ VRel μ n h x w
  | none => f = none
noncomputable def OVT (μ : Nat → Addr) (n : Nat) (h : Heap) (o : Option V) (f : Option (Addr × Value)) : Prop := match o with
  | some x => ∃ a w, f = some (a, w) ∧ VRel μ n h x w
  | none => f = none
theorem valueAt_eq {a : K} {w : Value} {q : List (K × Value)} : valueAt ((a, w) :: q) a = some w := by simp [valueAt]
theorem valueAt_ne {a k : K} {w : Value} {q : List (K × Value)} (z : ¬ a = k) : valueAt ((a, w) :: q) k = valueAt q k := by simp [valueAt, List.find?_cons, z]
theorem KvK.get (henc : ∀ a b, eqKey (enc a) (enc b) = decide (a = b)) {es : List (V × V)} : ∀ {kvs : List (K × Value)}, KvK enc μ n h es kvs → ∀ k, OV μ n h (dget (enc k) es) (valueAt kvs k) := by
  induction es with
  | nil => intro kvs r k; rw [show kvs = [] from r]; rfl
  | cons e es ih =>
    obtain ⟨y, v⟩ := e
    intro kvs r k
    refine kvk_cons r fun a w q d r => ?_
    by_cases z : a = k
    · subst z
      rw [dget_eq ((henc a a).trans (decide_eq_true rfl)), valueAt_eq]
      exact ⟨w, rfl, d⟩
    · rw [dget_ne ((henc a k).trans (decide_eq_false z)), valueAt_ne z]
      exact ih r k

theorem stored_cons {a k : K} {w v : Value} {q : List (K × Value)} (hn : a ∉ q.map (·.1)) : stored ((a, w) :: q) k v = if a = k then (a, v) :: q else (a, w) :: stored q k v := by
  unfold stored
  by_cases z : a = k
  · subst z
    rw [if_pos rfl, if_pos (by simp), List.map_cons, map_store_of_not_mem q a v hn]
    simp
  · rw [if_neg z]
    by_cases y : (q.any fun kv => decide (kv.1 = k)) = true
    · rw [if_pos (by rw [List.any_cons, y, Bool.or_true]), if_pos y, List.map_cons]
      simp [z]
    · rw [if_neg (by rw [List.any_cons, Bool.eq_false_iff.mpr y]; simp [z]), if_neg y]
      rfl

theorem KvK.put (henc : ∀ a b, eqKey (enc a) (enc b) = decide (a = b)) {es : List (V × V)} : ∀ {kvs : List (K × Value)}, KvK enc μ n h es kvs → (kvs.map (·.1)).Nodup → ∀ {k : K} {x : V} {w : Value}, VRel μ n h x w → KvK enc μ n h (dput (enc k) x es) (stored kvs k w) := by
  induction es with
  | nil => intro kvs r _ k x w hx; rw [show kvs = [] from r]; exact ⟨k, w, [], rfl, rfl, hx, rfl⟩
  | cons e es ih =>
    obtain ⟨y, v⟩ := e
    intro kvs r
    refine kvk_cons r fun a u q d r hn k x w hx => ?_
    rw [List.map_cons, List.nodup_cons] at hn
    rw [stored_cons hn.1]
    by_cases z : a = k
    · subst z
      rw [dput_eq ((henc a a).trans (decide_eq_true rfl)), if_pos rfl]
      exact ⟨a, w, q, rfl, rfl, hx, r⟩
    · rw [dput_ne ((henc a k).trans (decide_eq_false z)), if_neg z]
      exact ⟨a, u, _, rfl, rfl, d, ih r hn.2 hx⟩
end

section
variable {μ : Nat → Addr} {n : Nat} {h : Heap}
theorem dec_and {p q r : Prop} [Decidable p] [Decidable q] [Decidable r] (h : (p ∧ q) ↔ r) : (decide p && decide q) = decide r := by
  rw [← Bool.decide_and]; exact decide_eq_decide.mpr h
theorem eqKey_tup {i j k l : Int} : eqKey (.tup [.int i, .int j]) (.tup [.int k, .int l]) = decide ([i, j] = [k, l]) :=
  (show _ = (decide (i = k) && decide (j = l)) from rfl).trans (dec_and ⟨fun ⟨a, b⟩ => by rw [a, b], fun e => ⟨(List.cons.inj e).1, (List.cons.inj (List.cons.inj e).2).1⟩⟩)
theorem atKey_eq {k : List Int} {p : Addr × Value} {q : List (List Int × Addr × Value)} : atKey ((k, p) :: q) k = some p := by simp [atKey, List.find?_cons]
theorem atKey_ne {k l : List Int} {p : Addr × Value} {q : List (List Int × Addr × Value)} (z : ¬ l = k) : atKey ((l, p) :: q) k = atKey q k := by
  unfold atKey
  rw [List.find?_cons]
  simp only [decide_eq_false z]
theorem KvT.get {es : List (V × V)} : ∀ {kvs : List (List Int × Addr × Value)}, KvT μ n h es kvs → ∀ i j, OVT μ n h (dget (.tup [.int i, .int j]) es) (atKey kvs [i, j]) := by
  induction es with
  | nil => intro kvs r i j; rw [show kvs = [] from r]; rfl
  | cons e es ih =>
    obtain ⟨y, v⟩ := e
    intro kvs r i j
    refine kvt_cons r fun i' j' a w q d r => ?_
    by_cases z : [i', j'] = [i, j]
    · rw [dget_eq (eqKey_tup.trans (decide_eq_true z)), z, atKey_eq]
      exact ⟨a, w, rfl, d⟩
    · rw [dget_ne (eqKey_tup.trans (decide_eq_false z)), atKey_ne z]
      exact ih r i j
theorem storedH_eq {k : List Int} {p : Addr × Value} {q : List (List Int × Addr × Value)} {a : Addr} {w : Value} (hn : k ∉ q.map (·.1)) : storedH ((k, p) :: q) k a w = (k, p.1, w) :: q := by
  rw [storedH_old (p := p) atKey_eq, List.map_cons, map_putAt_of_not_mem q _ _ hn]
  simp [putAt]
theorem storedH_ne {k l : List Int} {p : Addr × Value} {q : List (List Int × Addr × Value)} {a : Addr} {w : Value} (z : ¬ l = k) : storedH ((l, p) :: q) k a w = (l, p) :: storedH q k a w := by
  unfold storedH
  rw [atKey_ne z]
  cases atKey q k with
  | none => rfl
  | some _ => rw [List.map_cons]; simp [putAt, z]
theorem KvT.put {es : List (V × V)} : ∀ {kvs : List (List Int × Addr × Value)}, KvT μ n h es kvs → (kvs.map (·.1)).Nodup → ∀ {i j : Int} {x : V} {a : Addr} {w : Value}, VRel μ n h x w → KvT μ n h (dput (.tup [.int i, .int j]) x es) (storedH kvs [i, j] a w) := by
  induction es with
  | nil => intro kvs r _ i j x a w hx; rw [show kvs = [] from r]; exact ⟨i, j, a, w, [], rfl, rfl, hx, rfl⟩
  | cons e es ih =>
    obtain ⟨y, v⟩ := e
    intro kvs r
    refine kvt_cons r fun i' j' a' u q d r hn i j x a w hx => ?_
    rw [List.map_cons, List.nodup_cons] at hn
    by_cases z : [i', j'] = [i, j]
    · rw [dput_eq (eqKey_tup.trans (decide_eq_true z)), ← z, storedH_eq hn.1]
      exact ⟨i', j', a', w, q, rfl, rfl, hx, r⟩
    · rw [dput_ne (eqKey_tup.trans (decide_eq_false z)), storedH_ne z]
      exact ⟨i', j', a', u, _, rfl, rfl, d, ih r hn.2 hx⟩
end

section
variable {c : Cy} {μ μ' : Nat → Addr} {σ σ' : St} {s s' : Shared} {h h' : Heap} {P : Addr → Prop} {n n' : Nat} {env : Env} {A : Around} {ℓ : Loc} {E : Value → Shared → Prop} {D : Nat} {d : Addr} {es : List (V × V)}

theorem empty_of {K : Type} [DecidableEq K] {knd : KeyKind c.prog c.w K} (hd : h.DictOf knd d []) : ∃ o ep, h.get? d = some o ∧ o.ExactDict ∧ o.data = .dict #[] ep := by
  obtain ⟨o, e, p, ho, r, r2, _, pp, _⟩ := hd
  have : e.toList = [] := by cases q : e.toList with | nil => rfl | cons a b => rw [q] at pp; cases pp
  have : e = #[] := Array.ext' this
  subst this
  exact ⟨o, p, ho, r, r2⟩
theorem empty_ofH {K : Type} [DecidableEq K] {knd : HeapKind c.prog c.w K} (hd : h.DictOfH knd d []) : ∃ o ep, h.get? d = some o ∧ o.ExactDict ∧ o.data = .dict #[] ep := by
  obtain ⟨o, e, p, ho, r, r2, pp, _⟩ := hd
  have : e = #[] := Array.ext' pp
  subst this
  exact ⟨o, p, ho, r, r2⟩
theorem dictOf_nil {K : Type} [DecidableEq K] {knd : KeyKind c.prog c.w K} (hd : ∃ o ep, h.get? d = some o ∧ o.ExactDict ∧ o.data = .dict #[] ep) : h.DictOf knd d [] := by
  obtain ⟨o, p, ho, r, r2⟩ := hd
  exact ⟨o, #[], p, ho, r, r2, fun e he => by simp at he, .nil, List.nodup_nil⟩
theorem dictOfH_nil {K : Type} [DecidableEq K] {knd : HeapKind c.prog c.w K} (hd : ∃ o ep, h.get? d = some o ∧ o.ExactDict ∧ o.data = .dict #[] ep) : h.DictOfH knd d [] := by
  obtain ⟨o, p, ho, r, r2⟩ := hd
  exact ⟨o, #[], p, ho, r, r2, rfl, fun x hx => by simp at hx, List.nodup_nil⟩

theorem DRel.nil (r : DRel c.toCx μ n h d []) : ∃ o ep, h.get? d = some o ∧ o.ExactDict ∧ o.data = .dict #[] ep :=
  DRel.cases r (fun kvs a q => empty_of ((show kvs = [] from q) ▸ a)) (fun kvs a q => empty_of ((show kvs = [] from q) ▸ a)) fun kvs a q => empty_ofH ((show kvs = [] from q) ▸ a)
theorem KvK.head {K : Type} {enc : K → V} {k v : V} {kvs : List (K × Value)} {C : Prop} {m : Nat} (r : KvK enc μ n h ((k, v) :: es) kvs) (hk : keyKind k = m) (z : ∀ a, keyKind (enc a) ≠ m) : C :=
  kvk_cons (P := fun k ζ => keyKind k = m → C) r (fun a ζ ζ ζ ζ e => absurd e (z a)) hk
theorem KvT.head {k v : V} {kvs : List (List Int × Addr × Value)} {C : Prop} {m : Nat} (r : KvT μ n h ((k, v) :: es) kvs) (hk : keyKind k = m) (z : 3 ≠ m) : C :=
  kvt_cons (P := fun k ζ => keyKind k = m → C) r (fun ζ ζ ζ ζ ζ ζ ζ e => absurd e z) hk
theorem DRel.int (r : DRel c.toCx μ n h d es) (k : ∀ e ∈ es, keyKind e.1 = 1) : ∃ kvs, h.DictOf (intKind c.prog c.w) d kvs ∧ KvK V.int μ n h es kvs := by
  cases es with
  | nil => exact ⟨[], dictOf_nil (DRel.nil r), rfl⟩
  | cons e es => exact DRel.cases r (fun kvs a q => ⟨kvs, a, q⟩) (fun ζ ζ q => q.head (k e (.head _)) fun ζ => (by decide : (2 : Nat) ≠ 1)) fun ζ ζ q => q.head (k e (.head _)) (by decide)
theorem DRel.str (r : DRel c.toCx μ n h d es) (k : ∀ e ∈ es, keyKind e.1 = 2) : ∃ kvs, h.DictOf (strKind c.prog c.w) d kvs ∧ KvK V.str μ n h es kvs := by
  cases es with
  | nil => exact ⟨[], dictOf_nil (DRel.nil r), rfl⟩
  | cons e es => exact DRel.cases r (fun ζ ζ q => q.head (k e (.head _)) fun ζ => (by decide : (1 : Nat) ≠ 2)) (fun kvs a q => ⟨kvs, a, q⟩) fun ζ ζ q => q.head (k e (.head _)) (by decide)
theorem DRel.tup (r : DRel c.toCx μ n h d es) (k : ∀ e ∈ es, keyKind e.1 = 3) : ∃ kvs, h.DictOfH (tupleKind (intKind c.prog c.w)) d kvs ∧ KvT μ n h es kvs := by
  cases es with
  | nil => exact ⟨[], dictOfH_nil (DRel.nil r), rfl⟩
  | cons e es => exact DRel.cases r (fun ζ ζ q => q.head (k e (.head _)) fun ζ => (by decide : (1 : Nat) ≠ 3)) (fun ζ ζ q => q.head (k e (.head _)) fun ζ => (by decide : (2 : Nat) ≠ 3)) fun kvs a q => ⟨kvs, a, q⟩

theorem pair2_eq {l : List V} {p : Int × Int} (h : pair2 l = some p) : l = [.int p.1, .int p.2] := by
  cases l with
  | nil => exact no_some h
  | cons x l => cases l with
    | nil => exact no_some h
    | cons y l => cases l with
      | cons _ _ => exact no_some h
      | nil =>
        obtain ⟨i, h1, h⟩ := Option.bind_eq_some_iff.mp (show ((vI x).bind fun i => (vI y).map fun j => (i, j)) = some p from h)
        obtain ⟨j, h2, rfl⟩ := Option.map_eq_some_iff.mp h
        rw [vI_eq h1, vI_eq h2]
/- the ways a key may be -/
theorem key_cases {k : V} (hk : keyKind k ≠ 0) : (∃ i, k = .int i) ∨ (∃ x, k = .str x) ∨ ∃ i j, k = .tup [.int i, .int j] := by
  cases k with
  | int i => exact .inl ⟨i, rfl⟩
  | str i => exact .inr (.inl ⟨i, rfl⟩)
  | tup l =>
    cases e : pair2 l with
    | none => exact absurd (show (match pair2 l with | some _ => 3 | none => 0) = 0 by rw [e]) hk
    | some p => exact .inr (.inr ⟨p.1, p.2, congrArg V.tup (pair2_eq e)⟩)
  | _ => exact absurd rfl hk

theorem henc_int : ∀ a b : Int, eqKey (V.int a) (V.int b) = decide (a = b) := fun ζ ζ => rfl
theorem henc_str : ∀ a b : Str, eqKey (V.str a) (V.str b) = decide (a = b) := fun ζ ζ => rfl

theorem int_is (i : Int) (t : Tok) : (intKind c.prog c.w).is i (.int i t) = true := intKind_is _ _ _ _
theorem str_is (i : Str) (t : Tok) : (strKind c.prog c.w).is i (.str i t) = true := strKind_is _ _ _ _

@[elab_as_elim] theorem tup_key {i j : Int} {v : Value} {M : Value → Prop} (r : VRel μ n h (.tup [.int i, .int j]) v) (K : ∀ a, (tupleKind (intKind c.prog c.w)).is h [i, j] a → M (.ref a)) : M v := by
  obtain ⟨a, xs, k, rfl, g, v1, w1, e1, ⟨t1, rfl⟩, v2, w2, rfl, ⟨t2, rfl⟩, rfl⟩ := r
  exact K a ⟨_, xs, k, g, rfl, rfl, by rw [e1]; exact ItemsAre.cons (int_is _ _) (ItemsAre.cons (int_is _ _) ItemsAre.nil)⟩

theorem not_mods (R : Rel c.toCx μ σ s) {i : Nat} (g : σ.get i = some (.dict es)) : (μ (2 * i) == sysModules) = false := beq_eq_false_iff_ne.mpr (R.obj _ _ g).2

/- what a dict of ours gives for a key: the three kinds at once -/
@[elab_as_elim] theorem dict_look {i : Nat} {k : V} {kv : Value} {M : V → Value → Prop} (R : Rel c.toCx μ σ s) (g : σ.get i = some (.dict es)) (rk : VRel μ σ.len s.heap k kv) (fit : dfit k es)
    (K1 : ∀ j t kvs, s.heap.DictOf (intKind c.prog c.w) (μ (2 * i)) kvs → KvK V.int μ σ.len s.heap es kvs → M (.int j) (.int j t))
    (K2 : ∀ j t kvs, s.heap.DictOf (strKind c.prog c.w) (μ (2 * i)) kvs → KvK V.str μ σ.len s.heap es kvs → M (.str j) (.str j t))
    (K3 : ∀ x y a kvs, (tupleKind (intKind c.prog c.w)).is s.heap [x, y] a → s.heap.DictOfH (tupleKind (intKind c.prog c.w)) (μ (2 * i)) kvs → KvT μ σ.len s.heap es kvs → M (.tup [.int x, .int y]) (.ref a)) : M k kv := by
  have r := (R.obj _ _ g).1
  obtain ⟨f1, f2⟩ := fit
  rcases key_cases f1 with ⟨j, rfl⟩ | ⟨j, rfl⟩ | ⟨x, y, rfl⟩
  · obtain ⟨kvs, a, b⟩ := DRel.int r f2
    exact int_rel rk fun t => K1 j t kvs a b
  · obtain ⟨kvs, a, b⟩ := DRel.str r f2
    exact str_rel rk fun t => K2 j t kvs a b
  · obtain ⟨kvs, a, b⟩ := DRel.tup r f2
    exact tup_key (c := c) rk fun d q => K3 x y d kvs q a b

theorem Room.in1 (H : Room A D) : A.units + 1 < cLine := by have := H.units64; omega

theorem some_val {o : Option V} {f : Option Value} (r : OV μ n h o f) {d : V} {dv : Value} (rd : VRel μ n h d dv) : VRel μ n h (o.getD d) (f.getD dv) := by
  cases o with
  | none => exact (show f = none from r) ▸ rd
  | some x => obtain ⟨w, rfl, q⟩ := r; exact q
theorem some_valT {o : Option V} {f : Option (Addr × Value)} (r : OVT μ n h o f) {d : V} {dv : Value} (rd : VRel μ n h d dv) : VRel μ n h (o.getD d) ((f.map (·.2)).getD dv) := by
  cases o with
  | none => exact (show f = none from r) ▸ rd
  | some x => obtain ⟨a, w, rfl, q⟩ := r; exact q

theorem dget_op1 {i : Nat} {k : V} {kv : Value} {Q : V → St → Prop} (C : COk c) (H : Room A D) (R : Rel c.toCx μ σ s) (g : σ.get i = some (.dict es)) (rk : VRel μ σ.len s.heap k kv) (fit : dfit k es) (q : Q ((dget k es).getD .none) σ) :
    wpAny c.M A (call (.builtin "dict.get") [.ref (μ (2 * i)), kv]) (PostE c.toCx μ σ s.heap Q) E s := by
  have lo := not_mods R g
  revert q
  refine dict_look R g rk fit (fun j t kvs hd r q => ?_) (fun j t kvs hd r q => ?_) fun x y a kvs hk hd r q => ?_
  · exact call_meetsIn PySem.F.slot_dict_get hd.typeIs PySem.F.entry_dict_get (PySem.F.args_dict_get_2 _ _) (meets_dict_get _ _ (int_is _ _) lo) ⟨_, hd.mapOf, PostE.tok R (some_val (r.get henc_int j) (d := .none) rfl) q⟩
  · exact call_meetsIn PySem.F.slot_dict_get hd.typeIs PySem.F.entry_dict_get (PySem.F.args_dict_get_2 _ _) (meets_dict_get _ _ (str_is _ _) lo) ⟨_, hd.mapOf, PostE.tok R (some_val (r.get henc_str j) (d := .none) rfl) q⟩
  · exact call_meetsIn PySem.F.slot_dict_get hd.typeIs PySem.F.entry_dict_get (PySem.F.args_dict_get_2 _ _) (meetsH_dict_get _ _ _ lo) ⟨tupleKind_room_in1 (H.in1), _, _, hk, hd, PostE.tok R (some_valT (r.get x y) (d := .none) rfl) q⟩

theorem dget_op2 {i : Nat} {k x : V} {kv v : Value} {Q : V → St → Prop} (C : COk c) (H : Room A D) (R : Rel c.toCx μ σ s) (g : σ.get i = some (.dict es)) (rk : VRel μ σ.len s.heap k kv) (rx : VRel μ σ.len s.heap x v) (fit : dfit k es) (q : Q ((dget k es).getD x) σ) :
    wpAny c.M A (call (.builtin "dict.get") [.ref (μ (2 * i)), kv, v]) (PostE c.toCx μ σ s.heap Q) E s := by
  have lo := not_mods R g
  revert q
  refine dict_look R g rk fit (fun j t kvs hd r q => ?_) (fun j t kvs hd r q => ?_) fun x y a kvs hk hd r q => ?_
  · exact call_meetsIn PySem.F.slot_dict_get hd.typeIs PySem.F.entry_dict_get (PySem.F.args_dict_get_3 _ _ _) (meets_dict_get_default _ _ (int_is _ _) lo _) ⟨_, hd.mapOf, PostE.tok R (some_val (r.get henc_int j) rx) q⟩
  · exact call_meetsIn PySem.F.slot_dict_get hd.typeIs PySem.F.entry_dict_get (PySem.F.args_dict_get_3 _ _ _) (meets_dict_get_default _ _ (str_is _ _) lo _) ⟨_, hd.mapOf, PostE.tok R (some_val (r.get henc_str j) rx) q⟩
  · exact call_meetsIn PySem.F.slot_dict_get hd.typeIs PySem.F.entry_dict_get (PySem.F.args_dict_get_3 _ _ _) (meetsH_dict_get_default _ _ _ lo _) ⟨tupleKind_room_in1 (H.in1), _, _, hk, hd, PostE.tok R (some_valT (r.get x y) rx) q⟩

theorem some_is {o : Option V} {f : Option Value} (r : OV μ n h o f) : f.isSome = o.isSome := by
  cases o with
  | none => rw [show f = none from r]; rfl
  | some x => obtain ⟨w, rfl, q⟩ := r; rfl

theorem din_op {i : Nat} {k : V} {kv : Value} {Q : V → St → Prop} (C : COk c) (R : Rel c.toCx μ σ s) (g : σ.get i = some (.dict es)) (rk : VRel μ σ.len s.heap k kv) (fit : dfit k es) (ht : keyKind k ≠ 3) (q : Q (.bool (dget k es).isSome) σ) :
    wpAny c.M A (compareOp .In kv (.ref (μ (2 * i)))) (PostE c.toCx μ σ s.heap Q) E s := by
  have lo := not_mods R g
  revert ht q
  refine dict_look R g rk fit (fun j t kvs hd r ht q => ?_) (fun j t kvs hd r ht q => ?_) fun x y a kvs hk hd r ht q => ?_
  · exact wpAny_in_of (int_is _ _) lo hd.mapOf (PostE.tok R (x := .bool _) (by rw [some_is (r.get henc_int j)]; rfl) q)
  · exact wpAny_in_of (str_is _ _) lo hd.mapOf (PostE.tok R (x := .bool _) (by rw [some_is (r.get henc_str j)]; rfl) q)
  · exact absurd rfl ht
theorem dnin_op {i : Nat} {k : V} {kv : Value} {Q : V → St → Prop} (C : COk c) (R : Rel c.toCx μ σ s) (g : σ.get i = some (.dict es)) (rk : VRel μ σ.len s.heap k kv) (fit : dfit k es) (ht : keyKind k ≠ 3) (q : Q (.bool (!(dget k es).isSome)) σ) :
    wpAny c.M A (compareOp .NotIn kv (.ref (μ (2 * i)))) (PostE c.toCx μ σ s.heap Q) E s := by
  have lo := not_mods R g
  revert ht q
  refine dict_look R g rk fit (fun j t kvs hd r ht q => ?_) (fun j t kvs hd r ht q => ?_) fun x y a kvs hk hd r ht q => ?_
  · exact wpAny_notIn_of (int_is _ _) lo hd.mapOf (PostE.tok R (x := .bool _) (by rw [some_is (r.get henc_int j)]; rfl) q)
  · exact wpAny_notIn_of (str_is _ _) lo hd.mapOf (PostE.tok R (x := .bool _) (by rw [some_is (r.get henc_str j)]; rfl) q)
  · exact absurd rfl ht

theorem dsub_op {i : Nat} {k x : V} {kv : Value} {Q : V → St → Prop} (H : Room A D) (R : Rel c.toCx μ σ s) (g : σ.get i = some (.dict es)) (rk : VRel μ σ.len s.heap k kv) (fit : dfit k es) (e : dget k es = some x) (q : Q x σ) :
    wpAny c.M A (getItem (.ref (μ (2 * i))) kv) (PostE c.toCx μ σ s.heap Q) E s := by
  revert e
  refine dict_look R g rk fit (fun j t kvs hd r e => ?_) (fun j t kvs hd r e => ?_) fun x y a kvs hk hd r e => ?_
  · have z := r.get henc_int j
    rw [e] at z
    obtain ⟨w, h1, h2⟩ := z
    exact wpAny_getItem_of (int_is _ _) hd.mapOf h1 (PostE.tok R h2 q)
  · have z := r.get henc_str j
    rw [e] at z
    obtain ⟨w, h1, h2⟩ := z
    exact wpAny_getItem_of (str_is _ _) hd.mapOf h1 (PostE.tok R h2 q)
  · have z := r.get x y
    rw [e] at z
    obtain ⟨a, w, h1, h2⟩ := z
    exact wpAny_getItem_heap (tupleKind_room_in1 (H.in1)) hk hd h1 (PostE.tok R h2 q)

theorem KvK.len {K : Type} {enc : K → V} {es : List (V × V)} : ∀ {kvs : List (K × Value)}, KvK enc μ n h es kvs → kvs.length = es.length := by
  induction es with
  | nil => intro kvs r; rw [show kvs = [] from r]; rfl
  | cons e es ih => intro kvs r; exact kvk_cons (P := fun ζ l => l.length = es.length + 1) r fun a w q d r => congrArg (· + 1) (ih r)
theorem KvT.len {es : List (V × V)} : ∀ {kvs : List (List Int × Addr × Value)}, KvT μ n h es kvs → kvs.length = es.length := by
  induction es with
  | nil => intro kvs r; rw [show kvs = [] from r]; rfl
  | cons e es ih => intro kvs r; exact kvt_cons (P := fun ζ l => l.length = es.length + 1) r fun i j a w q d r => congrArg (· + 1) (ih r)

theorem nodup_of {K : Type} [DecidableEq K] {knd : KeyKind c.prog c.w K} {kvs : List (K × Value)} (hd : h.DictOf knd d kvs) : (kvs.map (·.1)).Nodup := by
  obtain ⟨_, _, _, _, _, _, _, _, r⟩ := hd; exact r
theorem nodup_ofH {K : Type} [DecidableEq K] {knd : HeapKind c.prog c.w K} {kvs : List (K × Addr × Value)} (hd : h.DictOfH knd d kvs) : (kvs.map (·.1)).Nodup := by
  obtain ⟨_, _, _, _, _, _, _, _, r⟩ := hd; exact r
/- a dict in place is told anew -/
theorem dict_new (R : Rel c.toCx μ σ s) {i : Nat} {es' : List (V × V)} {tk : Nat} {Q : St → Prop} (g : σ.get i = some (.dict es)) (hs : Heap.SameBut (μ (2 * i)) s.heap h') (r : TKeep s.heap h' → DRel c.toCx μ σ.len h' (μ (2 * i)) es') (q : Q (σ.put i (.dict es'))) :
    PostU c.toCx μ σ s.heap Q { s with heap := h', toks := tk } := by
  obtain ⟨o, _, _, ho, _, hd⟩ := DRel.obj (R.obj _ _ g).1
  have tk' : TKeep s.heap h' := TKeep.of_sameBut hs ho (by simp [Frozen, hd])
  obtain ⟨R', S'⟩ := R.put g (o' := .dict es') rfl (.inl rfl) hs ⟨r tk', (R.obj _ _ g).2⟩ (tk := tk)
  exact ⟨μ, _, q, R', S'⟩

theorem big_line {n : Nat} (h : n < big) : n ≤ sizeLine := Nat.le_trans (Nat.le_of_lt h) (by decide)

theorem dset_op {i : Nat} {k x : V} {kv v : Value} {Q : St → Prop} (H : Room A D) (R : Rel c.toCx μ σ s) (g : σ.get i = some (.dict es)) (rk : VRel μ σ.len s.heap k kv) (rx : VRel μ σ.len s.heap x v) (fit : dfit k es) (hz : es.length < big) (q : Q (σ.put i (.dict (dput k x es)))) :
    wpAny c.M A (setItem (.ref (μ (2 * i))) kv v) (fun ζ => PostU c.toCx μ σ s.heap Q) E s := by
  revert q
  refine dict_look R g rk fit (fun j t kvs hd r q => ?_) (fun j t kvs hd r q => ?_) fun x y a kvs hk hd r q => ?_
  · refine wpAny_setItem_pairs (int_is _ _) hd (fun h' hd' hs => dict_new R g hs (fun tk => .inl ⟨_, hd', (r.put henc_int (nodup_of hd) rx).mono (Nat.le_refl _) (fun ζ ζ => rfl) tk⟩) q) (big_line (by rw [r.len]; exact hz))
  · refine wpAny_setItem_pairs (str_is _ _) hd (fun h' hd' hs => dict_new R g hs (fun tk => .inr (.inl ⟨_, hd', (r.put henc_str (nodup_of hd) rx).mono (Nat.le_refl _) (fun ζ ζ => rfl) tk⟩)) q) (big_line (by rw [r.len]; exact hz))
  · refine wpAny_setItem_heap (tupleKind_room_in1 (H.in1)) hk hd (fun h' hd' hs => dict_new R g hs (fun tk => .inr (.inr ⟨_, hd', (r.put (nodup_ofH hd) rx).mono (Nat.le_refl _) (fun ζ ζ => rfl) tk⟩)) q) (big_line (by rw [r.len]; exact hz))
end
end Mine.Internal
end
section
open PySem PySem.W PySem.Calls PyProof.Rows
namespace Mine.Internal

section
variable {c : Cy} {μ μ' : Nat → Addr} {σ σ' : St} {s s' : Shared} {h h' : Heap} {P : Addr → Prop} {n n' : Nat} {env : Env} {A : Around} {ℓ : Loc} {E : Value → Shared → Prop} {D : Nat}

theorem lobj_isList {a : Addr} {xs : Array Value} {k : Nat} (e : h.get? a = some (lobj xs k)) : h.IsList a xs := ⟨_, e, rfl, k, rfl⟩
theorem tobj_isTup {a : Addr} {xs : Array Value} {k : Nat} (e : h.get? a = some (tobj xs k)) : IsTup h a xs := ⟨_, e, rfl, k, rfl⟩

theorem seqIndex_of {k : Int} {n : Nat} (h0 : 0 ≤ k) (h1 : k.toNat < n) : seqIndex? k n = some k.toNat := by
  unfold seqIndex?
  rw [if_neg (show ¬ k < 0 by omega)]
  dsimp only
  rw [if_pos (by simp; omega)]

theorem lo63 {k : Int} (h : 0 ≤ k) : -2 ^ 63 ≤ k := by omega
theorem hi63 {k : Int} (h : k < 2 ^ 62) : k < 2 ^ 63 := by omega
theorem hiN {k : Int} (h : 0 ≤ k) (h2 : k < 2 ^ 62) : (decide (k < -2 ^ 63) || decide (k ≥ 2 ^ 63)) = false := by rw [decide_eq_false (by omega), decide_eq_false (by omega)]; rfl
theorem idx63 {k : Int} {n : Nat} (h : k < n) (h2 : n < big) : k < 2 ^ 63 := by have : big = 1000000 := rfl; omega
theorem sub_op {x y : V} {v w : Value} {Q : V → St → Prop} (H : Room A D) (R : Rel c.toCx μ σ s) (rx : VRel μ σ.len s.heap x v) (ry : VRel μ σ.len s.heap y w) (q : subV x y σ fun z => Q z σ) :
    wpAny c.M A (getItem v w) (PostE c.toCx μ σ s.heap Q) E s := by
  cases x with
  | tup l =>
    refine tup_rel rx fun a xs j g r => int_out ry q fun k t q => some_out q.2 fun z e q' => ?_
    obtain ⟨⟨h0, h1⟩, _⟩ := q
    obtain ⟨z', e1, r1⟩ := r.get e
    have hlt : k.toNat < xs.size := Array.length_toList ▸ (List.getElem?_eq_some_iff.mp e1).1
    exact getItem_tuple (tobj_isTup g) (lo63 h0) (hi63 h1) (seqIndex_of h0 hlt) (by rw [← Array.getElem?_toList]; exact e1) (PostE.now R r1 q')
  | str z =>
    refine str_rel rx fun t => int_out ry q fun k u q => some_out q.2 fun b e q' => ?_
    exact PyProof.Rows.getItem_str (hiN q.1.1 q.1.2) (by rw [seqIndex_of q.1.1 (show k.toNat < z.length from (Array.getElem?_eq_some_iff.mp e).1)]; exact e) (PostE.str R q')
  | obj j =>
    refine obj_rel rx (some_out (Op.out q) fun o g q => ?_)
    cases o with
    | list l =>
      refine int_out ry q fun k t q => some_out q.2 fun z e q' => ?_
      obtain ⟨xs, j', g', r⟩ := R.obj _ _ g
      obtain ⟨z', e1, r1⟩ := r.get e
      exact wpAny_getItem_list (lobj_isList g') q.1.1 (hi63 q.1.2) (by rw [← Array.getElem?_toList]; exact e1) (PostE.now R r1 q')
    | dict es => exact some_out q.2 fun z e q' => dsub_op H R g ry q.1 e q'
    | _ => exact False.elim q
  | _ => exact False.elim q

theorem sub_lookup {x y : V} {v : Value} {q : V → Prop} (R : Rel c.toCx μ σ s) (rx : VRel μ σ.len s.heap x v) (z : subV x y σ q) : ∃ T id, s.TypeIs v T ∧ typeLookup (.type T) "__getitem__" = pure (some (.builtin id)) := by
  cases x with
  | tup l => exact tup_rel rx fun a xs j g r => ⟨_, _, ⟨_, g, rfl⟩, slot_tuple_getitem.lookup⟩
  | str z => exact str_rel rx fun t => ⟨_, _, PySem.typeIs_str s _ t, slot_str_getitem.lookup⟩
  | obj j =>
    refine obj_rel rx (some_out (Op.out z) fun o g q => ?_)
    cases o with
    | list l =>
      obtain ⟨xs, j', g', r⟩ := R.obj _ _ g
      exact ⟨_, _, ⟨_, g', rfl⟩, slot_list_getitem.lookup⟩
    | dict es =>
      obtain ⟨o, ds, k, q, q1, q2⟩ := DRel.obj (R.obj _ _ g).1
      exact ⟨_, _, ⟨o, q, q1.1⟩, slot_dict_getitem.lookup⟩
    | _ => exact False.elim q
  | _ => exact False.elim z

theorem setL_op {j : Nat} {l : List V} {k : Int} {t : Tok} {z : V} {u : Value} {Q : St → Prop} (R : Rel c.toCx μ σ s) (g : σ.get j = some (.list l)) (rz : VRel μ σ.len s.heap z u) (h0 : 0 ≤ k) (h1 : k < l.length) (h2 : l.length < big) (q : Q (σ.put j (.list (l.set k.toNat z)))) :
    wpAny c.M A (setItem (.ref (μ (2 * j))) (.int k t) u) (fun ζ => PostU c.toCx μ σ s.heap Q) E s := by
  obtain ⟨xs, j', g', r⟩ := R.obj _ _ g
  have hl : xs.size = l.length := by rw [← r.length, Array.length_toList]
  refine ki_setAt (n := j') g' h0 (idx63 h1 h2) (by rw [hl]; exact h1) ?_
  have hs := Heap.SameBut.update s.heap (μ (2 * j)) (Obj.mapSeq (·.setIfInBounds k.toNat u))
  have tk := TKeep.of_sameBut hs g' (by simp [Frozen])
  have D' := PySem.IsL.update g' (·.setIfInBounds k.toNat u)
  obtain ⟨R', S'⟩ := R.put g (o' := .list (l.set k.toNat z)) rfl (.inl rfl) hs ⟨_, _, D', by rw [Array.toList_setIfInBounds]; exact (r.set k.toNat rz).mono (Nat.le_refl _) (fun ζ ζ => rfl) tk⟩ (tk := s.toks)
  exact ⟨μ, _, q, R', S'⟩
theorem setsub_op {x y z : V} {v w u : Value} {Q : St → Prop} (H : Room A D) (R : Rel c.toCx μ σ s) (rx : VRel μ σ.len s.heap x v) (ry : VRel μ σ.len s.heap y w) (rz : VRel μ σ.len s.heap z u) (q : setsubV x y z σ Q) :
    wpAny c.M A (setItem v w u) (fun ζ => PostU c.toCx μ σ s.heap Q) E s := by
  refine obj_out rx q fun j q => some_out (Op.out q) fun o g q => ?_
  cases o with
  | list l => exact int_out ry q fun k t q => setL_op R g rz q.1.1 q.1.2.1 q.1.2.2 q.2
  | dict es => exact dset_op H R g ry rz q.1.1 q.1.2 q.2
  | _ => exact False.elim q

theorem append_op {i : Nat} {l : List V} {x : V} {v : Value} {Q : V → St → Prop} (R : Rel c.toCx μ σ s) (g : σ.get i = some (.list l)) (rx : VRel μ σ.len s.heap x v) (hz : l.length < big) (q : Q .none (σ.put i (.list (l ++ [x])))) :
    wpAny c.M A (call (.builtin "list.append") [.ref (μ (2 * i)), v]) (PostE c.toCx μ σ s.heap Q) E s := by
  obtain ⟨xs, k, g', r⟩ := R.obj _ _ g
  have hl : xs.size = l.length := by rw [← r.length, Array.length_toList]
  refine append_at g' (fun h' hs g2 => ?_) (big_line (by rw [hl]; exact hz))
  have tk : TKeep s.heap h' := TKeep.of_sameBut hs g' (by simp [Frozen])
  have new : ORel c.toCx μ σ.len h' i (.list (l ++ [x])) := by
    refine ⟨_, _, g2, ?_⟩
    rw [Array.toList_push]
    exact (r.append (VsRel.one rx)).mono (Nat.le_refl _) (fun ζ ζ => rfl) tk
  obtain ⟨R', S'⟩ := R.put g (o' := .list (l ++ [x])) rfl (.inl rfl) hs new (tk := s.toks)
  exact ⟨μ, _, .none, q, R', S', rfl⟩

theorem none_size : h.get? h.objs.size = none := by
  cases e : h.get? h.objs.size with
  | none => rfl
  | some o => exact absurd (Heap.lt_size e) (Nat.lt_irrefl _)
theorem keep_push (o : Obj) : ∀ b ob, h.get? b = some ob → (h.push o).get? b = some ob := fun ζ ζ e => Heap.get?_push_of_some o e

/- a new list -/
theorem add_list {l : List V} {xs : Array Value} {k : Nat} {tk : Nat} {Q : V → St → Prop} (R : Rel c.toCx μ σ s) (r : VsRel μ σ.len s.heap l xs.toList) (q : Q (.obj σ.len) (σ.add (.list l))) :
    PostE c.toCx μ σ s.heap Q (.ref s.heap.objs.size) { s with heap := s.heap.push (lobj xs k), toks := tk } := by
  have new : ORel c.toCx (ext μ σ.len s.heap.objs.size 0) (σ.len + 1) (s.heap.push (lobj xs k)) σ.len (.list l) :=
    ⟨xs, k, by rw [ext_even]; exact Heap.get?_push_size _ rfl, r.mono (Nat.le_succ _) (fun i hi => ext_lt (by omega)) (TKeep.of_keeps (keep_push _))⟩
  obtain ⟨R', S'⟩ := R.add (o := .list l) (a := s.heap.objs.size) (d := 0) (keep_push _) none_size (fun e => by cases e) new (tk := tk)
  exact ⟨_, _, .obj σ.len, q, R', S', by rw [St.len_add]; omega, by rw [ext_even]⟩

theorem newList_op {l : List V} {vs : List Value} {Q : V → St → Prop} (R : Rel c.toCx μ σ s) (r : VsRel μ σ.len s.heap l vs) (hz : vs.length ≤ sizeLine) (q : Q (.obj σ.len) (σ.add (.list l))) :
    wpAny c.M A (newList vs) (PostE c.toCx μ σ s.heap Q) E s := by
  refine wpAny_newObj_type (add_list R (by simpa using r) q) (by show vs.toArray.size ≤ sizeLine; simpa using hz)

theorem newTuple_op {l : List V} {vs : List Value} {Q : V → St → Prop} (R : Rel c.toCx μ σ s) (r : VsRel μ σ.len s.heap l vs) (hz : vs.length ≤ sizeLine) (q : Q (.tup l) σ) :
    wpAny c.M A (newTuple vs) (PostE c.toCx μ σ s.heap Q) E s := by
  refine wpAny_newObj_type ⟨μ, σ, .tup l, q, R.grow (keep_push _), Step.grow (keep_push _), ?_⟩ (by show vs.toArray.size ≤ sizeLine; simpa using hz)
  exact ⟨_, vs.toArray, 0, rfl, Heap.get?_push_size _ rfl, by simpa using VsRel.mono (Nat.le_refl _) (fun ζ ζ => rfl) (TKeep.of_keeps (keep_push _)) r⟩

theorem min_cast (a b : Nat) : min (a : Int) b = ((min a b : Nat) : Int) := by
  rcases Nat.le_total a b with h | h
  · rw [Nat.min_eq_left h, Int.min_eq_left (Int.ofNat_le.mpr h)]
  · rw [Nat.min_eq_right h, Int.min_eq_right (Int.ofNat_le.mpr h)]
theorem slicePick_to (xs : Array Value) {k : Int} (h0 : 0 ≤ k) : (slicePick xs none (some k) none).toList = xs.toList.take k.toNat := by
  have e : (max 0 (min k (xs.size : Int))) = ((min k.toNat xs.size : Nat) : Int) := by
    obtain ⟨m, rfl⟩ := Int.eq_ofNat_of_zero_le h0
    rw [Int.toNat_natCast, min_cast]
    exact Int.max_eq_right (Int.natCast_nonneg _)
  have b : sliceBounds none (some k) none xs.size = (((0 : Nat) : Int), ((min k.toNat xs.size : Nat) : Int), 1) := by
    unfold sliceBounds
    simp only [Option.getD_none, show (1 : Int) > 0 by decide, if_true, show ¬ k < 0 by omega, if_false, e]
    rfl
  unfold slicePick
  rw [b]
  dsimp only
  rw [sliceRange_one, pick_run xs 0]
  simp only [List.drop_zero, Nat.sub_zero]
  rw [← Array.length_toList, ← List.take_eq_take_min]

theorem slice_op {x y : V} {v w : Value} {sl : Addr} {Q : V → St → Prop} (R : Rel c.toCx μ σ s) (rx : VRel μ σ.len s.heap x v) (ry : VRel μ σ.len s.heap y w) (hsl : s.heap.IsSliceOf sl .none w .none) (q : sliceV x y σ Q) :
    wpAny c.M A (getItem v (.ref sl)) (PostE c.toCx μ σ s.heap Q) E s := by
  revert hsl
  exact obj_out rx q fun i q => int_out ry q fun k t q hsl => list_out R q fun l xs j' g g' r q => by
    have hl : xs.size = l.length := by rw [← r.length, Array.length_toList]
    exact wpAny_getItem_list_slice (lobj_isList g') hsl .none (.int _ _) .none (by simp) (add_list R (by rw [slicePick_to _ q.1.1]; exact r.take _) q.2) (big_line (by rw [hl]; exact q.1.2.2))
end
end Mine.Internal
end
section
open PySem PySem.W PySem.Calls PyProof.Rows
set_option maxRecDepth 100000
namespace Mine.Internal

theorem sub_bi : isSubtype (.type "bool") (.type "int") = pure true := by rw [isSubtype_type]; kernel_rfl
theorem sub_si : isSubtype (.type "str") (.type "int") = pure false := by rw [isSubtype_type]; kernel_rfl
theorem sub_ti : isSubtype (.type "tuple") (.type "int") = pure false := by rw [isSubtype_type]; kernel_rfl
theorem sub_ni : isSubtype (.type "NoneType") (.type "int") = pure false := by rw [isSubtype_type]; kernel_rfl
theorem sub_bs : isSubtype (.type "bool") (.type "str") = pure false := by rw [isSubtype_type]; kernel_rfl
theorem sub_is : isSubtype (.type "int") (.type "str") = pure false := by rw [isSubtype_type]; kernel_rfl
theorem sub_ts : isSubtype (.type "tuple") (.type "str") = pure false := by rw [isSubtype_type]; kernel_rfl
theorem sub_ns : isSubtype (.type "NoneType") (.type "str") = pure false := by rw [isSubtype_type]; kernel_rfl
theorem sub_bt : isSubtype (.type "bool") (.type "tuple") = pure false := by rw [isSubtype_type]; kernel_rfl
theorem sub_it : isSubtype (.type "int") (.type "tuple") = pure false := by rw [isSubtype_type]; kernel_rfl
theorem sub_st : isSubtype (.type "str") (.type "tuple") = pure false := by rw [isSubtype_type]; kernel_rfl
theorem sub_nt : isSubtype (.type "NoneType") (.type "tuple") = pure false := by rw [isSubtype_type]; kernel_rfl
theorem sub_ib : isSubtype (.type "int") (.type "bool") = pure false := by rw [isSubtype_type]; kernel_rfl
theorem sub_sb : isSubtype (.type "str") (.type "bool") = pure false := by rw [isSubtype_type]; kernel_rfl
theorem sub_tb : isSubtype (.type "tuple") (.type "bool") = pure false := by rw [isSubtype_type]; kernel_rfl
theorem sub_nb : isSubtype (.type "NoneType") (.type "bool") = pure false := by rw [isSubtype_type]; kernel_rfl

section
variable {c : Cy} {μ μ' : Nat → Addr} {σ σ' : St} {s s' : Shared} {h h' : Heap} {P : Addr → Prop} {n n' : Nat} {env : Env} {A : Around} {ℓ : Loc} {E : Value → Shared → Prop} {D : Nat}

theorem PostE.grow {Q : V → St → Prop} {x : V} {v : Value} {tk : Nat} (R : Rel c.toCx μ σ s) (k : ∀ b o, s.heap.get? b = some o → h'.get? b = some o) (r : VRel μ σ.len h' x v) (q : Q x σ) : PostE c.toCx μ σ s.heap Q v { s with heap := h', toks := tk } :=
  ⟨μ, σ, x, q, R.grow k, Step.grow k, r⟩

theorem isi_true {Tx T : String} {x : Value} {Q : V → St → Prop} (R : Rel c.toCx μ σ s) (hT : s.TypeIs x Tx) (hty : typeOf (.type T) = pure (.type "type")) (hs : isSubtype (.type Tx) (.type T) = pure true) (q : Q (.bool true) σ) :
    wpAny c.M A (call (.builtin "isinstance") [x, .type T]) (PostE c.toCx μ σ s.heap Q) E s := call_isinstance (isinstance_true hty hs) ⟨hT, PostE.bool R q⟩

theorem ints_items {l : List V} : ∀ {vs : List Value} {ns : List Int}, intsOf l = some ns → VsRel μ n h l vs → ∃ xs : List (Int × Tok), vs = xs.map (fun p => .int p.1 p.2) ∧ xs.map (·.1) = ns := by
  induction l with
  | nil => intro vs ns e r; exact ⟨[], (show vs = [] from r), sinj e⟩
  | cons x l ih =>
    intro vs ns e r
    obtain ⟨i, h1, e⟩ := Option.bind_eq_some_iff.mp (show ((vI x).bind fun i => (intsOf l).map fun l => i :: l) = some ns from e)
    obtain ⟨m, hm, rfl⟩ := Option.map_eq_some_iff.mp e
    have h1 := vI_eq h1
    subst h1
    exact cons_rel r fun w ws r1 r2 => int_rel r1 fun t => let ⟨xs, h1, h2⟩ := ih hm r2; ⟨(i, t) :: xs, congrArg (List.cons _) h1, congrArg (List.cons _) h2⟩

theorem preSum_ext {f g : Nat → Int} : ∀ k, (∀ i, i < k → f i = g i) → preSum f k = preSum g k
  | 0, _ => rfl
  | k + 1, he => by rw [preSum, preSum, preSum_ext k (fun i hi => he i (by omega)), he k (by omega)]
theorem preSum_snoc : ∀ (xs : List (Int × Tok)), preSum (numAt xs.toArray) xs.length = (xs.map (·.1)).sum := by
  intro xs
  have key : ∀ k, k ≤ xs.length → preSum (numAt xs.toArray) k = ((xs.map (·.1)).take k).sum := by
    intro k
    induction k with
    | zero => intro _; rfl
    | succ k ih =>
      intro hk
      rw [preSum, ih (by omega), List.take_add_one, List.sum_append]
      congr 1
      have : xs[k]? = some xs[k] := List.getElem?_eq_getElem (by omega)
      simp [numAt, this]
  rw [key xs.length (Nat.le_refl _), List.take_of_length_le (by simp)]

theorem sum_op {i : Nat} {l : List V} {ns : List Int} {Q : V → St → Prop} (H : Room A D) (R : Rel c.toCx μ σ s) (g : σ.get i = some (.list l)) (e : intsOf l = some ns) (q : Q (.int ns.sum) σ) :
    wpAny c.M A (call (.builtin "sum") [.ref (μ (2 * i))]) (PostE c.toCx μ σ s.heap Q) E s := by
  obtain ⟨xs, k, g', r⟩ := R.obj _ _ g
  obtain ⟨ys, h1, h2⟩ := ints_items e r
  have hl : s.heap.IsList (μ (2 * i)) (intItems ys.toArray) := by
    have : intItems ys.toArray = xs := Array.ext' (by simp [intItems, h1])
    rw [this]; exact lobj_isList g'
  refine sum_intListG H.handled hl fun h' tk t' hk => ?_
  rw [show (ys.toArray).size = ys.length by simp, preSum_snoc, h2]
  exact PostE.grow R hk (x := .int _) ⟨_, rfl⟩ q

theorem rngSmall {a b : Int} (ha : a.natAbs < 2 ^ 60) (hb : b.natAbs < 2 ^ 60) : Builtin.Range.small a b 1 = true := small_one (by omega) (by omega) (by omega) (by omega)
theorem rngSize (a b : Int) : Builtin.Range.rangeSize a b 1 = ((b - a).toNat : Nat) := by
  rw [rangeSize_one]; split <;> omega

theorem ints_range {acc : Array Value} {a : Int} : ∀ (m : Nat), ItemsOf (fun (i : Nat) (v : Value) => ∃ t, v = Value.int (a + (i : Int) * 1) t) acc m → VsRel μ n h ((List.range m).map fun (j : Nat) => V.int (a + (j : Int))) acc.toList := by
  intro m ⟨hz, hp⟩
  have key : ∀ (k : Nat) (vs : List Value), (∀ j v, vs[j]? = some v → ∃ t, v = Value.int (a + ((k + j : Nat) : Int)) t) → VsRel μ n h ((List.range' k vs.length).map fun (j : Nat) => V.int (a + (j : Int))) vs := by
    intro k vs
    induction vs generalizing k with
    | nil => intro _; rfl
    | cons v vs ih =>
      intro hv
      obtain ⟨t, e⟩ := hv 0 v rfl
      refine ⟨v, vs, rfl, ⟨t, by rw [e]; rfl⟩, ih (k + 1) fun j w hw => ?_⟩
      obtain ⟨t, e⟩ := hv (j + 1) w (by simpa using hw)
      exact ⟨t, by rw [e, show k + (j + 1) = k + 1 + j by omega]⟩
  have z := key 0 acc.toList fun j v hv => by
    obtain ⟨t, e⟩ := hp j v (by rw [← Array.getElem?_toList]; exact hv)
    exact ⟨t, by rw [e]; simp⟩
  rw [Array.length_toList, hz, ← List.range_eq_range'] at z
  exact z

theorem add_list2 {l : List V} {xs : Array Value} {k : Nat} {a : Addr} {tk : Nat} {Q : V → St → Prop} (R : Rel c.toCx μ σ s) (kp : ∀ b o, s.heap.get? b = some o → h'.get? b = some o) (ha : s.heap.get? a = none) (g : h'.get? a = some (lobj xs k))
    (r : VsRel μ σ.len s.heap l xs.toList) (q : Q (.obj σ.len) (σ.add (.list l))) : PostE c.toCx μ σ s.heap Q (.ref a) { s with heap := h', toks := tk } := by
  have new : ORel c.toCx (ext μ σ.len a 0) (σ.len + 1) h' σ.len (.list l) :=
    ⟨xs, k, by rw [ext_even]; exact g, r.mono (Nat.le_succ _) (fun i hi => ext_lt (by omega)) (TKeep.of_keeps kp)⟩
  obtain ⟨R', S'⟩ := R.add (o := .list l) (a := a) (d := 0) kp ha (fun e => by cases e) new (tk := tk)
  exact ⟨_, _, .obj σ.len, q, R', S', by rw [St.len_add]; omega, by rw [ext_even]⟩

/- the built-in functions' values -/
noncomputable def fnVal : Fn → Option Value
  | .len => some (.builtin "len") | .sum => some (.builtin "sum") | .min => some (.builtin "min")
  | .range => some (.type "range") | .list => some (.type "list") | .tuple => some (.type "tuple") | .sorted => some (.builtin "sorted")
  | _ => none

theorem seq_size {l : List V} {xs : Array Value} (r : VsRel μ n h l xs.toList) : xs.size = l.length := by rw [← r.length, Array.length_toList]
theorem len63 {n : Nat} (h : n < big) : (n : Int) < 2 ^ 63 := Int.lt_trans (Int.ofNat_lt.mpr h) (by decide)
theorem seq_63 {l : List V} {xs : Array Value} (r : VsRel μ n h l xs.toList) (hz : l.length < big) : (xs.size : Int) < 2 ^ 63 := len63 ((seq_size r) ▸ hz)
theorem len_op {x : V} {v : Value} {Q : V → St → Prop} (R : Rel c.toCx μ σ s) (rx : VRel μ σ.len s.heap x v) (q : lenV x σ fun i => Q (.int i) σ) :
    wpAny c.M A (call (.builtin "len") [v]) (PostE c.toCx μ σ s.heap Q) E s := by
  cases x with
  | tup l => exact tup_rel rx fun a xs k g r => len_tuple (tobj_isTup g) (seq_63 r q.1) (PostE.int R (by rw [seq_size r]; exact q.2))
  | str z => exact str_rel rx fun t => len_str (Int.not_le.mpr (len63 q.1)) (PostE.int R q.2)
  | obj i => exact obj_rel rx (list_out R q fun l xs k g g' r q => PyProof.Rows.len_list (lobj_isList g') (seq_63 r q.1) (PostE.int R (by rw [seq_size r]; exact q.2)))
  | _ => exact False.elim q
theorem min_op {a b : Int} {t u : Tok} {Q : V → St → Prop} (H : Room A D) (R : Rel c.toCx μ σ s) (q : Q (.int (if b < a then b else a)) σ) :
    wpAny c.M A (call (.builtin "min") [.int a t, .int b u]) (PostE c.toCx μ σ s.heap Q) E s := by
  refine min_two_ints H.handled fun h' tk hk => ?_
  by_cases z : b < a
  · rw [if_pos z] at q ⊢; exact PostE.grow R hk (x := .int _) ⟨_, rfl⟩ q
  · rw [if_neg z] at q ⊢; exact PostE.grow R hk (x := .int _) ⟨_, rfl⟩ q

theorem range1_op {b : Int} {u : Tok} {Q : V → St → Prop} (R : Rel c.toCx μ σ s) (hb : b.natAbs < 2 ^ 60) (q : Q (.rng 0 b) σ) :
    wpAny c.M A (call (.type "range") [.int b u]) (PostE c.toCx μ σ s.heap Q) E s := by
  refine call_range_1 (PostE.grow R (keep_push _) (x := .rng 0 b) ⟨_, _, _, _, rfl, IsRange.new .., by decide, hb⟩ q)
theorem range2_op {a b : Int} {t u : Tok} {Q : V → St → Prop} (R : Rel c.toCx μ σ s) (ha : a.natAbs < 2 ^ 60) (hb : b.natAbs < 2 ^ 60) (q : Q (.rng a b) σ) :
    wpAny c.M A (call (.type "range") [.int a t, .int b u]) (PostE c.toCx μ σ s.heap Q) E s := by
  refine call_range_2 (PostE.grow R (keep_push _) (x := .rng a b) ⟨_, _, _, _, rfl, IsRange.new .., ha, hb⟩ q)

theorem listR_op {a b : Int} {r : Addr} {t u z : Tok} {Q : V → St → Prop} (H : Room A D) (R : Rel c.toCx μ σ s) (hr : IsRange s.heap r a b 1 t u z) (ha : a.natAbs < 2 ^ 60) (hb : b.natAbs < 2 ^ 60) (hz : (b - a).toNat < big) (q : Q (.obj σ.len) (σ.add (.list (rangeL a b)))) :
    wpAny c.M A (call (.type "list") [.ref r]) (PostE c.toCx μ σ s.heap Q) E s :=
  call_list_range H.handled hr (rngSmall ha hb) (rngSize a b) (by have : big = 1000000 := rfl; omega) fun ζ ζ acc ζ hk hg hi => add_list2 R hk none_size hg (ints_range _ hi) q

theorem listL_op {i : Nat} {l : List V} {Q : V → St → Prop} (R : Rel c.toCx μ σ s) (g : σ.get i = some (.list l)) (hz : l.length < big) (q : Q (.obj σ.len) (σ.add (.list l))) :
    wpAny c.M A (call (.type "list") [.ref (μ (2 * i))]) (PostE c.toCx μ σ s.heap Q) E s := by
  obtain ⟨xs, k, g', r⟩ := R.obj _ _ g
  have hl : xs.size = l.length := by rw [← r.length, Array.length_toList]
  exact call_list_seq _ (.inl rfl) g' rfl rfl (fun h' c' hk hg => add_list2 R hk none_size hg r q) (big_line (by rw [hl]; exact hz))

theorem tupleL_op {i : Nat} {l : List V} {Q : V → St → Prop} (R : Rel c.toCx μ σ s) (g : σ.get i = some (.list l)) (hz : l.length < 16000) (q : Q (.tup l) σ) :
    wpAny c.M A (call (.type "tuple") [.ref (μ (2 * i))]) (PostE c.toCx μ σ s.heap Q) E s := by
  obtain ⟨xs, k, g', r⟩ := R.obj _ _ g
  have hl : xs.size = l.length := by rw [← r.length, Array.length_toList]
  have b1 : big = 1000000 := rfl
  refine call_tuple_list (lobj_isList g') (fun h' hk => ?_) (big_line (by rw [hl]; omega))
  have kp : ∀ b o, s.heap.get? b = some o → (h'.push { cls := .type "tuple", data := .seq xs }).get? b = some o := fun b o e => keep_push _ _ _ (hk _ _ e)
  exact PostE.grow R kp (x := .tup l) ⟨_, xs, 0, rfl, Heap.get?_push_size _ rfl, r.mono (Nat.le_refl _) (fun ζ ζ => rfl) (TKeep.of_keeps kp)⟩ q
end
end Mine.Internal
end
section
open PySem PySem.W PySem.Calls PyProof.Rows
set_option maxRecDepth 100000
namespace Mine.Internal

structure RoomF (A : Around) (D : Nat) : Prop where
  handled : A.handled = none
  depth : A.depth + 5 * D + 7 < recursionLimit
  units : A.units + 60 * D + 40 < 9900

theorem Room.f {A : Around} {D : Nat} (H : Room A D) : RoomF A D := ⟨H.handled, by have := H.depth; omega, by have := H.units; omega⟩
theorem make_weight (C : Addr) (rest : List Value) (kw : List (Str × Value)) : (Code.builtin "type.__call__" ⟨.ref C :: rest, kw⟩).weight = 1 := rfl
theorem make_units (C : Addr) (rest : List Value) (kw : List (Str × Value)) : (Code.builtin "type.__call__" ⟨.ref C :: rest, kw⟩).cUnits = 1 := rfl
theorem Room.make {A : Around} {D : Nat} (H : Room A D) (C : Addr) (rest : List Value) (kw : List (Str × Value)) : RoomF (A.under (.builtin "type.__call__" ⟨.ref C :: rest, kw⟩)) D := by
  refine ⟨H.handled, ?_, ?_⟩
  · show A.depth + (Code.builtin "type.__call__" ⟨.ref C :: rest, kw⟩).weight + 5 * D + 7 < _
    rw [make_weight]; have := H.depth; omega
  · show A.units + (Code.builtin "type.__call__" ⟨.ref C :: rest, kw⟩).cUnits + 60 * D + 40 < _
    rw [make_units]; have := H.units; omega

/- an exception of ours in flight: its object, and the ball it bears -/
structure ExcAt (c : Cx) (μ : Nat → Addr) (σ : St) (h : Heap) (x : Addr) (b : V) (tb : Array Value → Prop) : Prop where
  ix : ∃ i, σ.get i = some .exd ∧ x = μ (2 * i) ∧ ∃ o ds k, h.get? x = some o ∧ o.cls = .ref (c.ca 6) ∧ o.dict = some (μ (2 * i + 1)) ∧ (∃ xs, o.data = .fields xs ∧ xs.size = 6 ∧ tb xs) ∧ h.get? (μ (2 * i + 1)) = some (dobj ds k) ∧ FsRel c μ σ.len h [(31, b)] ds.toList

/- no frame has noted it -/
noncomputable abbrev NoTb : Array Value → Prop := fun xs => xs[1]? = some .none
/- its entry is new since h, and stands in no frame -/
noncomputable def TbIn (h h' : Heap) : Array Value → Prop := fun xs => ∃ T ot ts, xs[1]? = some (.ref T) ∧ h.get? T = none ∧ h'.get? T = some ot ∧ ot.cls = .type "traceback" ∧ ot.data = .fields ts ∧ ts[3]? = some .none
theorem ExcAt.mono {c : Cx} {μ : Nat → Addr} {σ : St} {h : Heap} {x : Addr} {b : V} {tb tb' : Array Value → Prop} (z : ExcAt c μ σ h x b tb) (k : ∀ xs, tb xs → tb' xs) : ExcAt c μ σ h x b tb' := by
  obtain ⟨i, a, e, o, ds, kk, h1, h2, h3, ⟨xs, h4, h5, h6⟩, h7⟩ := z
  exact ⟨i, a, e, o, ds, kk, h1, h2, h3, ⟨xs, h4, h5, k _ h6⟩, h7⟩

/- the addresses whose slots alone may turn -/
noncomputable def SlotsAt (a : Addr) (h h' : Heap) : Prop := ∀ o, h.get? a = some o → ∃ sl, h'.get? a = some { o with slots := sl }

inductive PostX (c : Cx) (L : Addr) (μ : Nat → Addr) (σ : St) (h : Heap) (X : V → St → Prop) (e : Value) (s' : Shared) : Prop
  | mk (μ' : Nat → Addr) (σ' : St) (b : V) (x : Addr) (q : X b σ') (R : Rel c μ' σ' s') (S : Step (fun a => a = L) μ σ h μ' σ' s'.heap) (sl : SlotsAt L h s'.heap) (e0 : e = .ref x) (z : ExcAt c μ' σ' s'.heap x b (TbIn h s'.heap))

noncomputable def SimF (c : Cy) (D : Nat) (f : Value) (spec : FnSpec) : Prop :=
  ∀ (A : Around) (μ : Nat → Addr) (σ : St) (s : Shared) (vs : List V) (vs' : List Value) (Q : V → St → Prop), RoomF A D → Rel c.toCx μ σ s → VsRel μ σ.len s.heap vs vs' → spec vs σ Q (fun ζ ζ => False) →
    codeAny c.M A (.call f ⟨vs', []⟩) (fun r s' => match r with | .ok (.ret v) => PostE c.toCx μ σ s.heap Q v s' | .ok _ => False | .error _ => False) s

/- the one activation below -/
structure Solo (A : Around) (env : Env) : Prop where
  frames : A.frames = some [env]
  frame : env.frame = some env.locals
/- a function that may raise, called from the one activation there is -/
noncomputable def SimX (c : Cy) (D : Nat) (f : Value) (spec : FnSpec) : Prop :=
  ∀ (A : Around) (env : Env) (ℓ : Loc) (μ : Nat → Addr) (σ : St) (s : Shared) (vs : List V) (vs' : List Value) (Q X : V → St → Prop), RoomF A D → Solo A env → env.scope.kind = .function → c.B.get? env.locals = none → LRel env ℓ μ σ s.heap → Rel c.toCx μ σ s → VsRel μ σ.len s.heap vs vs' → spec vs σ Q X →
    codeAny c.M A (.call f ⟨vs', []⟩) (fun r s' => match r with | .ok (.ret v) => PostE c.toCx μ σ s.heap Q v s' | .ok _ => False | .error e => PostX c.toCx env.locals μ σ s.heap X e s') s

structure SetUp (c : Cy) (Γ : Env') (D : Nat) : Prop where
  C : COk c
  F : FOk c
  at_ : c.T.at_ = atNames
  dbg : ∀ x g, globOf c.T x = some g → (x == ("__debug__" : Str)) = false
  fns : ∀ x f, globOf c.T x = some (.fn f) → (x == ("isinstance" : Str)) = true ∨ (fnVal f).isSome = true ∨ ∃ k, f = .usr k
  bi : ∀ x f v, globOf c.T x = some (.fn f) → fnVal f = some v → c.mg x = none ∧ c.mb x = some v
  isi : c.mg "isinstance" = none ∧ c.mb "isinstance" = some (.builtin "isinstance")
  tys : ∀ x ∈ (["int", "str", "tuple", "bool"] : List String), c.mg x = none ∧ c.mb x = some (.type x)
  usr : ∀ x k, globOf c.T x = some (.fn (.usr k)) → c.mg x = some (.ref (c.fa k)) ∧ keepIn c.K (.ref (c.fa k)) = true
  cls : ∀ x k, globOf c.T x = some (.cls k) → c.mg x = some (.ref (c.ca k)) ∧ keepIn c.K (.ref (c.ca k)) = true
  sim : ∀ id, SimF c D (.ref (c.fa id)) (Γ.fn id)
  init : ∀ x k, globOf c.T x = some (.cls k) → k ≠ 6 → makesIn c.K (c.ca k) = true ∧ findIn c.K (.ref (c.ca k)) "__init__" = some (some (.ref (c.fa (initId k)))) ∧ typeIn c.K (.ref (c.fa (initId k))) = some (.type "function")
  base : ∀ x k, globOf c.T x = some (.cls k) → specialIn c.K (.ref (c.ca k)) "__getattribute__" = some (some (.builtin "type.__getattribute__")) ∧ readsIn c.K (c.ca k) (.type "type") = true ∧
    findCls c.K (.ref (c.ca k)) (.type "type") "__init__" = some (.val (.ref (c.fa (initId k)))) ∧ keepIn c.K (.ref (c.fa (initId k))) = true
  meth : ∀ cl n, methOk cl n = true → n < 59 ∧ findIn c.K (.ref (c.ca cl)) "__getattribute__" = some (some (.builtin "object.__getattribute__")) ∧ findIn c.K (.ref (c.ca cl)) "__getattr__" = some none ∧
    findIn c.K (.ref (c.ca cl)) (atName n) = some (some (.ref (c.fa (methId cl n)))) ∧ typeIn c.K (.ref (c.fa (methId cl n))) = some (.type "function") ∧ keepIn c.K (.ref (c.fa (methId cl n))) = true

section
variable {c : Cy} {μ μ' : Nat → Addr} {σ σ' : St} {s s' : Shared} {h h' : Heap} {P : Addr → Prop} {n n' : Nat} {env : Env} {A : Around} {ℓ : Loc} {E : Value → Shared → Prop} {D : Nat} {Γ : Env'}

theorem usr_op {f : Value} {spec : FnSpec} {vs : List V} {vs' : List Value} {Q : V → St → Prop} (S : SimF c D f spec) (H : Room A D) (R : Rel c.toCx μ σ s) (r : VsRel μ σ.len s.heap vs vs') (q : spec vs σ Q (fun ζ ζ => False)) :
    wpAny c.M A (call f vs') (PostE c.toCx μ σ s.heap Q) E s := by
  refine wpAny_call (codeAny_mono (S A μ σ s vs vs' Q H.f R r q) fun r s' z => ?_)
  rcases r with e | (v | _ | _ | _) <;> first | exact z | exact z.elim

theorem keep_push2 (o o' : Obj) : ∀ b ob, h.get? b = some ob → ((h.push o).push o').get? b = some ob := fun ζ ζ e => Heap.get?_push_of_some _ (Heap.get?_push_of_some _ e)

theorem make_op {k : Nat} {vs : List V} {vs' : List Value} {Q : V → St → Prop} {x : Str} (S : SetUp c Γ D) (hx : globOf c.T x = some (.cls k)) (hk : k ≠ 6) (H : Room A D) (R : Rel c.toCx μ σ s) (r : VsRel μ σ.len s.heap vs vs')
    (q : Γ.fn (initId k) (.obj σ.len :: vs) (σ.add (.inst k [])) (fun r σ' => r = .none ∧ Q (.obj σ.len) σ') (fun ζ ζ => False)) :
    wpAny c.M A (call (.ref (c.ca k)) vs') (PostE c.toCx μ σ s.heap Q) E s := by
  obtain ⟨hm, hi, hf⟩ := S.init x k hx hk
  have X := S.C.K.keeps R.keep
  obtain ⟨hh, g, d, t, os⟩ := s
  refine wpAny_call ?_
  refine make_core (makes_of X hm) (looks_findIn X hi) (fun self => bind_fn X self hf) (.inl rfl) ?_
  have new : ORel c.toCx (ext μ σ.len (hh.objs.size + 1) hh.objs.size) (σ.len + 1) ((hh.push emptyDict).push (instObj (c.ca k) hh.objs.size)) σ.len (.inst k []) := by
    refine ⟨?_, #[], 0, ?_, rfl, List.nodup_nil⟩
    · rw [ext_even, ext_odd, ← Heap.size_push hh emptyDict]; exact Heap.get?_push_size _ rfl
    · rw [ext_odd]; exact Heap.get?_push_of_some _ (Heap.get?_push_size _ rfl)
  have n1 : hh.get? (hh.objs.size + 1) = none := Heap.get?_none_of_le (Nat.le_succ _)
  obtain ⟨R', S'⟩ := R.add (o := .inst k []) (a := hh.objs.size + 1) (d := hh.objs.size) (keep_push2 _ _) n1 (fun ζ => ⟨none_size, Nat.succ_ne_self _⟩) new (tk := t)
  have r1 : VsRel (ext μ σ.len (hh.objs.size + 1) hh.objs.size) (σ.add (.inst k [])).len ((hh.push emptyDict).push (instObj (c.ca k) hh.objs.size)) (.obj σ.len :: vs) (.ref (hh.objs.size + 1) :: vs') :=
    ⟨_, _, rfl, ⟨by rw [St.len_add]; omega, by rw [ext_even]⟩, r.step R S'⟩
  refine codeAny_mono (S.sim (initId k) _ _ _ _ _ _ _ (H.make (c.ca k) vs' []) R' r1 q) fun r s' z => ?_
  cases r with
  | error e => exact z.elim
  | ok f =>
    cases f with
    | ret v =>
      obtain ⟨μ₂, σ₂, y, ⟨rfl, q₂⟩, R₂, S₂, r₂⟩ := z
      refine ⟨r₂, μ₂, σ₂, _, q₂, R₂, S'.trans S₂, ?_, ?_⟩
      · have := S₂.len; rw [St.len_add] at this; omega
      · have e := S₂.same (2 * σ.len) (used_even (by rw [St.len_add]; omega))
        rw [e, ext_even]
    | _ => exact z.elim

/- the atomic object of PrologError: told later -/
noncomputable def ExcOp (c : Cy) (D : Nat) : Prop := ∀ {A : Around} {μ : Nat → Addr} {σ : St} {s : Shared} {b : V} {v : Value} {Q : V → St → Prop} {E : Value → Shared → Prop}, Room A D → Rel c.toCx μ σ s → VRel μ σ.len s.heap b v →
  Q (.obj σ.len) (σ.add (.exc b)) → wpAny c.M A (call (.ref (c.ca 6)) [v]) (PostE c.toCx μ σ s.heap Q) E s
/- sorted: told later -/
noncomputable def SortOp (c : Cy) (D : Nat) (srt : List Row3 → List Row3) : Prop := ∀ {A : Around} {μ : Nat → Addr} {σ : St} {s : Shared} {i : Nat} {l : List V} {rs : List Row3} {Q : V → St → Prop} {E : Value → Shared → Prop}, Room A D → Rel c.toCx μ σ s →
  σ.get i = some (.list l) → rows3 l = some rs → rs.length < 60 → Q (.obj σ.len) (σ.add (.list ((srt rs).map row3V))) → wpAny c.M A (call (.builtin "sorted") [.ref (μ (2 * i))]) (PostE c.toCx μ σ s.heap Q) E s

/- a call of a built-in function -/
theorem range_op {vs : List V} {vs' : List Value} {Q : V → St → Prop} (R : Rel c.toCx μ σ s) (r : VsRel μ σ.len s.heap vs vs') (q : rangeV vs fun v => Q v σ) : wpAny c.M A (call (.type "range") vs') (PostE c.toCx μ σ s.heap Q) E s := by
  cases vs with
  | nil => exact False.elim q
  | cons x vs =>
    refine cons_rel r fun v ws rx r => ?_
    cases vs with
    | nil => exact nil_rel r (int_out rx q fun ζ ζ q => range1_op R q.1 q.2)
    | cons y vs =>
      refine cons_rel r fun w us ry r => ?_
      cases vs with
      | nil => exact nil_rel r (int_out rx q fun ζ ζ q => int_out ry q fun ζ ζ q => range2_op R q.1.1 q.1.2 q.2)
      | cons _ _ => exact False.elim q
theorem toList_op {x : V} {v : Value} {Q : V → St → Prop} (H : Room A D) (R : Rel c.toCx μ σ s) (rx : VRel μ σ.len s.heap x v) (q : toListV x σ Q) : wpAny c.M A (call (.type "list") [v]) (PostE c.toCx μ σ s.heap Q) E s := by
  cases x with
  | obj i => exact obj_rel rx (listO_out q fun l g q => listL_op R g q.1 q.2)
  | rng a b => exact rng_rel rx fun r t u z hr ha hb => listR_op H R hr ha hb q.1 q.2
  | _ => exact False.elim q
theorem bi_op {f : Fn} {fv : Value} {vs : List V} {vs' : List Value} {Q : V → St → Prop} (SO : SortOp c D Γ.srt) (hf : fnVal f = some fv) (H : Room A D) (R : Rel c.toCx μ σ s) (r : VsRel μ σ.len s.heap vs vs') (q : callV Γ f vs σ Q) :
    wpAny c.M A (call fv vs') (PostE c.toCx μ σ s.heap Q) E s := by
  cases f with
  | len => exact sinj hf ▸ one_out r q fun x v rx q => len_op R rx q
  | sum => exact sinj hf ▸ one_out r q fun x v rx q => obj_out rx q fun i q => listO_out q fun l g q => some_out q fun ns e1 q => sum_op H R g e1 q
  | min => exact sinj hf ▸ two_out r q fun x v y w rx ry q => int_out rx q fun ζ ζ q => int_out ry q fun ζ ζ q => min_op H R q
  | range => exact sinj hf ▸ range_op R r q
  | list => exact sinj hf ▸ one_out r q fun x v rx q => toList_op H R rx q
  | tuple => exact sinj hf ▸ one_out r q fun x v rx q => obj_out rx q fun i q => listO_out q fun l g q => tupleL_op R g q.1 q.2
  | sorted => exact sinj hf ▸ one_out r q fun x v rx q => obj_out rx q fun i q => listO_out q fun l g q => some_out q fun rs e1 q => SO H R g e1 q.1 q.2
  | _ => exact no_some hf

theorem isi_int {x : V} {v : Value} {Q : V → St → Prop} (R : Rel c.toCx μ σ s) (rx : VRel μ σ.len s.heap x v) (q : someV (kindIs .isInt x) fun b => Q (.bool b) σ) : wpAny c.M A (call (.builtin "isinstance") [v, .type "int"]) (PostE c.toCx μ σ s.heap Q) E s := by
  cases x with
  | int i => exact int_rel rx fun t => isi_true R (show s.TypeIs (.int i t) "int" from rfl) F.isi_meta_int F.isi_self_int q
  | bool b => rw [show v = .bool b from rx]; exact isi_true R (show s.TypeIs (.bool b) "bool" from rfl) F.isi_meta_int sub_bi q
  | str i => exact str_rel rx fun t => call_isinstance (isinstance_false_str (by decide) F.isi_meta_int sub_si) (PostE.tok R (x := .bool false) rfl q)
  | tup l => exact tup_rel rx fun a xs k g ζ => call_isinstance (isinstance_false_tuple (by decide) F.isi_meta_int sub_ti) ⟨⟨_, g, rfl⟩, PostE.tok R (x := .bool false) rfl q⟩
  | none => rw [show v = .none from rx]; exact call_isinstance (isinstance_false_none (by decide) F.isi_meta_int sub_ni) (PostE.tok R (x := .bool false) rfl q)
  | _ => exact False.elim q
theorem isi_str {x : V} {v : Value} {Q : V → St → Prop} (R : Rel c.toCx μ σ s) (rx : VRel μ σ.len s.heap x v) (q : someV (kindIs .isStr x) fun b => Q (.bool b) σ) : wpAny c.M A (call (.builtin "isinstance") [v, .type "str"]) (PostE c.toCx μ σ s.heap Q) E s := by
  cases x with
  | int i => exact int_rel rx fun t => call_isinstance (isinstance_false_int (by decide) F.isi_meta_str sub_is) (PostE.tok R (x := .bool false) rfl q)
  | bool b => rw [show v = .bool b from rx]; exact call_isinstance (isinstance_false_bool (by decide) F.isi_meta_str sub_bs) (PostE.tok R (x := .bool false) rfl q)
  | str i => exact str_rel rx fun t => isi_true R (PySem.typeIs_str s i t) F.isi_meta_str F.isi_self_str q
  | tup l => exact tup_rel rx fun a xs k g ζ => call_isinstance (isinstance_false_tuple (by decide) F.isi_meta_str sub_ts) ⟨⟨_, g, rfl⟩, PostE.tok R (x := .bool false) rfl q⟩
  | none => rw [show v = .none from rx]; exact call_isinstance (isinstance_false_none (by decide) F.isi_meta_str sub_ns) (PostE.tok R (x := .bool false) rfl q)
  | _ => exact False.elim q
theorem isi_tup {x : V} {v : Value} {Q : V → St → Prop} (R : Rel c.toCx μ σ s) (rx : VRel μ σ.len s.heap x v) (q : someV (kindIs .isTuple x) fun b => Q (.bool b) σ) : wpAny c.M A (call (.builtin "isinstance") [v, .type "tuple"]) (PostE c.toCx μ σ s.heap Q) E s := by
  cases x with
  | int i => exact int_rel rx fun t => call_isinstance (isinstance_false_int (by decide) F.isi_meta_tuple sub_it) (PostE.tok R (x := .bool false) rfl q)
  | bool b => rw [show v = .bool b from rx]; exact call_isinstance (isinstance_false_bool (by decide) F.isi_meta_tuple sub_bt) (PostE.tok R (x := .bool false) rfl q)
  | str i => exact str_rel rx fun t => call_isinstance (isinstance_false_str (by decide) F.isi_meta_tuple sub_st) (PostE.tok R (x := .bool false) rfl q)
  | tup l => exact tup_rel rx fun a xs k g ζ => isi_true R ⟨_, g, rfl⟩ F.isi_meta_tuple F.isi_self_tuple q
  | none => rw [show v = .none from rx]; exact call_isinstance (isinstance_false_none (by decide) F.isi_meta_tuple sub_nt) (PostE.tok R (x := .bool false) rfl q)
  | _ => exact False.elim q
theorem isi_bool {x : V} {v : Value} {Q : V → St → Prop} (R : Rel c.toCx μ σ s) (rx : VRel μ σ.len s.heap x v) (q : someV (kindIs .isBool x) fun b => Q (.bool b) σ) : wpAny c.M A (call (.builtin "isinstance") [v, .type "bool"]) (PostE c.toCx μ σ s.heap Q) E s := by
  cases x with
  | int i => exact int_rel rx fun t => call_isinstance (isinstance_false_int (by decide) F.isi_meta_bool sub_ib) (PostE.tok R (x := .bool false) rfl q)
  | bool b => rw [show v = .bool b from rx]; exact isi_true R (show s.TypeIs (.bool b) "bool" from rfl) F.isi_meta_bool F.isi_self_bool q
  | str i => exact str_rel rx fun t => call_isinstance (isinstance_false_str (by decide) F.isi_meta_bool sub_sb) (PostE.tok R (x := .bool false) rfl q)
  | tup l => exact tup_rel rx fun a xs k g ζ => call_isinstance (isinstance_false_tuple (by decide) F.isi_meta_bool sub_tb) ⟨⟨_, g, rfl⟩, PostE.tok R (x := .bool false) rfl q⟩
  | none => rw [show v = .none from rx]; exact call_isinstance (isinstance_false_none (by decide) F.isi_meta_bool sub_nb) (PostE.tok R (x := .bool false) rfl q)
  | _ => exact False.elim q
theorem isi_fn_op {f : Fn} {T : String} {x : V} {v : Value} {Q : V → St → Prop} (R : Rel c.toCx μ σ s) (rx : VRel μ σ.len s.heap x v) (hf : (T = "int" ∧ f = .isInt) ∨ (T = "str" ∧ f = .isStr) ∨ (T = "tuple" ∧ f = .isTuple) ∨ (T = "bool" ∧ f = .isBool))
    (q : callV Γ f [x] σ Q) : wpAny c.M A (call (.builtin "isinstance") [v, .type T]) (PostE c.toCx μ σ s.heap Q) E s := by
  rcases hf with ⟨rfl, rfl⟩ | ⟨rfl, rfl⟩ | ⟨rfl, rfl⟩ | ⟨rfl, rfl⟩
  · exact isi_int R rx q
  · exact isi_str R rx q
  · exact isi_tup R rx q
  · exact isi_bool R rx q

theorem strs_of {l : List V} {z : Str} : ∀ {vs : List Value} {b : Bool}, strIn z l = some b → VsRel μ n h l vs → ∃ ys, StrsAre vs ys ∧ ys.any (· == z) = b := by
  induction l with
  | nil => intro vs b e r; exact ⟨[], (show vs = [] from r) ▸ .nil, sinj e⟩
  | cons x l ih =>
    intro vs b e r
    obtain ⟨t, h1, e⟩ := Option.bind_eq_some_iff.mp (show ((vS x).bind fun t => (strIn z l).map fun b => t == z || b) = some b from e)
    obtain ⟨m, hm, rfl⟩ := Option.map_eq_some_iff.mp e
    have h1 := vS_eq h1
    subst h1
    exact cons_rel r fun w ws r1 r2 => str_rel r1 fun u => let ⟨ys, h1, h2⟩ := ih hm r2; ⟨t :: ys, .cons t u h1, congrArg (t == z || ·) h2⟩

theorem in_op {x y : V} {v w : Value} {Q : V → St → Prop} (C : COk c) (R : Rel c.toCx μ σ s) (rx : VRel μ σ.len s.heap x v) (ry : VRel μ σ.len s.heap y w) (q : inV x y σ fun r => Q (.bool r) σ) :
    wpAny c.M A (compareOp .In v w) (PostE c.toCx μ σ s.heap Q) E s := by
  cases y with
  | tup l => exact tup_rel ry fun a xs k g r => str_out rx q fun z t q => some_out q fun b hb q => let ⟨ys, h1, h2⟩ := strs_of hb r; in_tuple_strs (tobj_isTup g) h1 (PostE.bool R (by rw [h2]; exact q))
  | obj i => exact obj_rel ry (dictO_out q fun es g q => din_op C R g rx q.1.1 q.1.2 q.2)
  | _ => exact False.elim q
theorem nin_op {x y : V} {v w : Value} {Q : V → St → Prop} (C : COk c) (R : Rel c.toCx μ σ s) (rx : VRel μ σ.len s.heap x v) (ry : VRel μ σ.len s.heap y w) (q : ninV x y σ fun r => Q (.bool (!r)) σ) :
    wpAny c.M A (compareOp .NotIn v w) (PostE c.toCx μ σ s.heap Q) E s :=
  obj_out ry q fun i q => dictO_out q fun es g q => dnin_op C R g rx q.1.1 q.1.2 q.2

/- a method is looked up -/
noncomputable def MtVal (c : Cx) (μ : Nat → Addr) (v : Value) : Mt → Value
  | .usr _ => .none
  | .append => .builtin "list.append"
  | .get => .builtin "dict.get"
  | .startswith => .builtin "str.startswith"

theorem atName_33 : atName 33 = "append" := by decide +kernel
theorem atName_34 : atName 34 = "get" := by decide +kernel
theorem atName_35 : atName 35 = "startswith" := by decide +kernel

noncomputable def mtVal (c : Cy) : Mt → Value
  | .usr id => .ref (c.fa id)
  | .append => .builtin "list.append"
  | .get => .builtin "dict.get"
  | .startswith => .builtin "str.startswith"
noncomputable def mtOk (c : Cy) : Mt → Prop
  | .usr id => keepIn c.K (.ref (c.fa id)) = true
  | _ => True

theorem meth_op {x : V} {v : Value} {m : Nat} {pl : Sem Bool} {K : Value × List Value → Shared → Prop} {Q : Mt → Prop} (S : SetUp c Γ D) (R : Rel c.toCx μ σ s) (rx : VRel μ σ.len s.heap x v) (q : methV x m σ Q)
    (k : ∀ mt, Q mt → mtOk c mt → K (mtVal c mt, [v]) s) : wpAny c.M A (getMethod v (atName m) pl) K E s := by
  cases x with
  | str z =>
    obtain ⟨rfl, q⟩ := q
    rw [atName_35]
    revert k
    exact str_rel rx fun t k => PySem.GM.startswith (k _ q trivial)
  | obj i =>
    revert k
    refine obj_rel rx fun k => some_out (Op.out q) fun o g q1 => ?_
    clear q
    have q := q1
    clear q1
    cases o with
    | inst cl fs =>
      obtain ⟨ds, kk, I, gd, r, hn⟩ := inst_at R g
      obtain ⟨⟨hm, hl⟩, q⟩ := q
      obtain ⟨h1, h2, h3, h4, h5, h6⟩ := S.meth cl m hm
      have z := r.getL (a := m) h1
      rw [hl] at z
      exact method_fn (S.C.K.keeps R.keep) I h2 h3 h4 h5 (by show (lookIn (atName m) (dictOf ds kk)).map _ = _; rw [lookIn_dict, z]; rfl) (k _ q h6)
    | list l =>
      obtain ⟨rfl, q⟩ := q
      obtain ⟨xs, kk, g', r⟩ := R.obj _ _ g
      rw [atName_33]
      exact getMethod_list_append g' rfl rfl (k _ q trivial)
    | dict es =>
      obtain ⟨rfl, q⟩ := q
      obtain ⟨o, ds, kk, h1, h2, h3⟩ := DRel.obj (R.obj _ _ g).1
      rw [atName_34]
      exact getMethod_builtin ⟨o, h1, h2.1⟩ PySem.F.plainAttrs_dict PySem.F.slot_dict_get PySem.F.type_dict_get (fun a e => by cases e; exact ⟨o, h1, h2.2.1⟩) (k _ q trivial)
    | _ => exact False.elim q
  | _ => exact False.elim q

theorem getm_op {i : Nat} {vs : List V} {vs' : List Value} {Q : V → St → Prop} (C : COk c) (H : Room A D) (R : Rel c.toCx μ σ s) (r : VsRel μ σ.len s.heap vs vs') (q : getV i vs σ Q) :
    wpAny c.M A (call (.builtin "dict.get") (.ref (μ (2 * i)) :: vs')) (PostE c.toCx μ σ s.heap Q) E s := by
  cases vs with
  | nil => exact False.elim q
  | cons x vs =>
    refine cons_rel r fun v ws rx r => ?_
    cases vs with
    | nil => exact nil_rel r (dictO_out q fun es g q => dget_op1 C H R g rx q.1 q.2)
    | cons y vs =>
      refine cons_rel r fun w us ry r => ?_
      cases vs with
      | nil => exact nil_rel r (dictO_out q fun es g q => dget_op2 C H R g rx ry q.1 q.2)
      | cons _ _ => exact False.elim q
theorem mcall_op {mt : Mt} {x : V} {v : Value} {vs : List V} {vs' : List Value} {Q : V → St → Prop} (S : SetUp c Γ D) (H : Room A D) (R : Rel c.toCx μ σ s) (rx : VRel μ σ.len s.heap x v) (r : VsRel μ σ.len s.heap vs vs')
    (q : mcallV Γ mt x vs σ Q (fun ζ ζ => False)) : wpAny c.M A (call (mtVal c mt) (v :: vs')) (PostE c.toCx μ σ s.heap Q) E s := by
  cases mt with
  | usr id => exact usr_op (vs := x :: vs) (S.sim id) H R ⟨v, vs', rfl, rx, r⟩ q
  | append => exact obj_out rx q fun i q => one_out r q fun y w ry q => listO_out q fun l g q => append_op R g ry q.1 q.2
  | get => exact obj_out rx q fun i q => getm_op S.C H R r q
  | startswith => exact str_out rx q fun z t q => one_out r q fun y w ry q => str_out ry q fun u t q => PySem.SC.startswith (PostE.bool R q)
end
end Mine.Internal
end
section
open PySem PySem.W PySem.Calls PyProof.Rows
set_option maxRecDepth 100000
namespace Mine.Internal

structure Here (c : Cy) (env : Env) (A : Around) (D : Nat) (μ : Nat → Addr) (σ : St) (s : Shared) (ℓ : Loc) : Prop where
  O : EnvOk c env
  H : Room A D
  R : Rel c.toCx μ σ s
  L : LRel env ℓ μ σ s.heap

inductive PostB (c : Cx) (μ : Nat → Addr) (σ : St) (h : Heap) (Q : Bool → St → Prop) (b : Bool) (s' : Shared) : Prop
  | mk (μ' : Nat → Addr) (σ' : St) (q : Q b σ') (R : Rel c μ' σ' s') (S : Step noP μ σ h μ' σ' s'.heap)

noncomputable def SimE (c : Cy) (Γ : Env') (D : Nat) (sc : Scope) (e : Expr) (ie : IE) : Prop :=
  ∀ (env : Env) (A : Around) (μ : Nat → Addr) (σ : St) (s : Shared) (ℓ : Loc) (E : Value → Shared → Prop) (Q : V → St → Prop), env.scope = sc → Here c env A D μ σ s ℓ → wE Γ ie ℓ σ Q →
    wpAny c.M A (eval e env) (PostE c.toCx μ σ s.heap Q) E s
noncomputable def SimT (c : Cy) (Γ : Env') (D : Nat) (sc : Scope) (e : Expr) (ie : IE) : Prop :=
  ∀ (env : Env) (A : Around) (μ : Nat → Addr) (σ : St) (s : Shared) (ℓ : Loc) (E : Value → Shared → Prop) (Q : Bool → St → Prop), env.scope = sc → Here c env A D μ σ s ℓ → wE Γ ie ℓ σ (fun v σ => boolV v fun b => Q b σ) →
    wpAny c.M A (isTrue e env (eval e env)) (PostB c.toCx μ σ s.heap Q) E s
noncomputable def PE (c : Cy) (Γ : Env') (D : Nat) (ie : IE) : Prop := ∀ (e : Expr) (sc : Scope), chkE c.T ie sc e = true → SimE c Γ D sc e ie ∧ SimT c Γ D sc e ie

section
variable {c : Cy} {μ μ' : Nat → Addr} {σ σ' : St} {s s' : Shared} {h h' : Heap} {P : Addr → Prop} {n n' : Nat} {env : Env} {A : Around} {ℓ : Loc} {E : Value → Shared → Prop} {D : Nat} {Γ : Env'} {sc : Scope} {e : Expr} {ie : IE}

theorem Here.step (X : Here c env A D μ σ s ℓ) (R : Rel c.toCx μ' σ' s') (S : Step noP μ σ s.heap μ' σ' s'.heap) : Here c env A D μ' σ' s' ℓ := ⟨X.O, X.H, R, X.L.step X.R S⟩
theorem PostB.from_ {Q : Bool → St → Prop} {b : Bool} (S : Step noP μ σ h μ' σ' h') (p : PostB c.toCx μ' σ' h' Q b s') : PostB c.toCx μ σ h Q b s' :=
  let ⟨μ₂, σ₂, q, R, S'⟩ := p; ⟨μ₂, σ₂, q, R, S.trans S'⟩

theorem onE {t : Sem Value} {Q : V → St → Prop} {K : Value → Shared → Prop} (X : Here c env A D μ σ s ℓ) (hw : wpAny c.M A t (PostE c.toCx μ σ s.heap Q) E s)
    (k : ∀ v s₁ μ₁ σ₁ x, Q x σ₁ → Here c env A D μ₁ σ₁ s₁ ℓ → Step noP μ σ s.heap μ₁ σ₁ s₁.heap → VRel μ₁ σ₁.len s₁.heap x v → K v s₁) : wpAny c.M A t K E s :=
  wpAny_mono hw (fun v s₁ ⟨μ₁, σ₁, x, q, R₁, S, r⟩ => k v s₁ μ₁ σ₁ x q (X.step R₁ S) S r) fun ζ ζ e => e

theorem truthy_of {x : V} {v : Value} {Q : Bool → St → Prop} (R : Rel c.toCx μ σ s) (r : VRel μ σ.len s.heap x v) (q : boolV x fun b => Q b σ) : wpAny c.M A (truthy v) (PostB c.toCx μ σ s.heap Q) E s := by
  cases x with
  | bool b => rw [show v = .bool b from r]; exact wpAny_truthy_bool ⟨μ, σ, q, R, Step.refl ..⟩
  | _ => exact q.elim

/- a test that is just a value -/
theorem simT_of (hE : SimE c Γ D sc e ie) (he : ∀ env, isTrue e env (eval e env) = (do let v ← eval e env; standAt e.pos; holding [v] (truthy v))) : SimT c Γ D sc e ie := by
  intro env A μ σ s ℓ E Q hs X q
  rw [he]
  refine wpAny_bind (onE X (hE env A μ σ s ℓ E _ hs X q) fun v s₁ μ₁ σ₁ x q₁ X₁ S₁ r₁ => ?_)
  exact wpAny_bind (wpAny_standAt (wpAny_holding (wpAny_mono (truthy_of X₁.R r₁ q₁) (fun ζ ζ z => PostB.from_ S₁ z) fun ζ ζ z => z)))

theorem case_val (S : SetUp c Γ D) (v : V) : PE c Γ D (.val v) := by
  intro e sc hc
  rcases inv_val hc with ⟨_, _, _, rfl, h1⟩ | ⟨_, _, _, rfl, h1, h2, h4⟩
  · exact ⟨fun env A μ σ s ℓ E Q hs X q => sE_const X.R h1 q, simT_of (fun env A μ σ s ℓ E Q hs X q => sE_const X.R h1 q) fun ζ => rfl⟩
  · exact ⟨fun env A μ σ s ℓ E Q hs X q => sE_glob X.O S.C X.R (hs ▸ h1) h2 h4 q, simT_of (fun env A μ σ s ℓ E Q hs X q => sE_glob X.O S.C X.R (hs ▸ h1) h2 h4 q) fun ζ => rfl⟩

theorem case_loc (i : Nat) : PE c Γ D (.loc i) := by
  intro e sc hc
  refine inv_loc hc fun x p k e0 h1 h2 h3 h4 => ?_
  subst e0
  exact ⟨fun env A μ σ s ℓ E Q hs X q => sE_loc X.O X.R X.L (hs ▸ h1) h2 h3 h4 q, simT_of (fun env A μ σ s ℓ E Q hs X q => sE_loc X.O X.R X.L (hs ▸ h1) h2 h3 h4 q) fun ζ => rfl⟩

theorem case_neg {a : IE} (ha : PE c Γ D a) : PE c Γ D (.neg a) := by
  intro e sc hc
  refine inv_neg hc fun x p e0 h1 => ?_
  subst e0
  have z : SimE c Γ D sc (.UnaryOp .USub x p) (.neg a) := fun env A μ σ s ℓ E Q hs X q => sE_neg ((ha _ _ h1).1 env A μ σ s ℓ E _ hs X q)
  exact ⟨z, simT_of z fun ζ => rfl⟩

theorem case_not {a : IE} (ha : PE c Γ D a) : PE c Γ D (.not a) := by
  intro e sc hc
  refine inv_not hc fun x p e0 h1 => ?_
  subst e0
  refine ⟨fun env A μ σ s ℓ E Q hs X q => sE_not ((ha _ _ h1).1 env A μ σ s ℓ E _ hs X q), fun env A μ σ s ℓ E Q hs X q => ?_⟩
  show wpAny _ _ (do return !(← isTrue _ env (eval _ env))) _ _ _
  refine wpAny_bind (wpAny_mono ((ha _ _ h1).2 env A μ σ s ℓ E (fun b σ => Q (!b) σ) hs X q) (fun b s₁ z => ?_) fun ζ ζ z => z)
  obtain ⟨μ₂, σ₂, q, R, S'⟩ := z
  exact wpAny_pure ⟨μ₂, σ₂, q, R, S'⟩

theorem case_bin {op : Operator} {a b : IE} (ha : PE c Γ D a) (hb : PE c Γ D b) : PE c Γ D (.bin op a b) := by
  intro e sc hc
  refine inv_bin hc fun x y p e0 h1 h2 => ?_
  subst e0
  have z : SimE c Γ D sc (.BinOp x op y p) (.bin op a b) := fun env A μ σ s ℓ E Q hs X q => by
    refine sE_bin (onE X ((ha _ _ h1).1 env A μ σ s ℓ E _ hs X q) fun v s₁ μ₁ σ₁ x q₁ X₁ S₁ r₁ => ?_)
    refine onE X₁ ((hb _ _ h2).1 env A μ₁ σ₁ s₁ ℓ E _ hs X₁ q₁) fun w s₂ μ₂ σ₂ y q₂ X₂ S₂ r₂ => ?_
    exact wpAny_mono (bin_op X₂.R (r₁.step X₁.R S₂) r₂ q₂) (fun ζ ζ z => PostE.from_ (S₁.trans S₂) z) fun ζ ζ z => z
  exact ⟨z, simT_of z fun ζ => rfl⟩

/- one comparison, as a value and as a test -/
theorem cmp_any {op : CmpOp} {x y : V} {v w : Value} {Q : V → St → Prop} (S : SetUp c Γ D) (H : Room A D) (R : Rel c.toCx μ σ s) (rx : VRel μ σ.len s.heap x v) (ry : VRel μ σ.len s.heap y w)
    (q : cmpD op x y σ fun r => Q (.bool r) σ) : wpAny c.M A (compareOp op v w) (PostE c.toCx μ σ s.heap Q) E s := by
  have go : (someB (cmpV op x y σ) fun r => Q (.bool r) σ) → wpAny c.M A (compareOp op v w) (PostE c.toCx μ σ s.heap Q) E s := fun q => by
    cases hr : cmpV op x y σ with
    | some r => rw [hr] at q; exact cmp_op H R rx ry hr q
    | none => rw [hr] at q; exact q.elim
  cases op with
  | In => exact in_op S.C R rx ry q
  | NotIn => exact nin_op S.C R rx ry q
  | _ => exact go q

theorem marked_one {op : CmpOp} {r : Expr} {t : Sem Value} (h : behindInMarks op r = false) : markedEach [op] [r] [t] = [t] := by
  show [markedBehindIn op r t] = [t]
  unfold markedBehindIn
  simp [h]

theorem case_cmp (S : SetUp c Γ D) {op : CmpOp} {a b : IE} (ha : PE c Γ D a) (hb : PE c Γ D b) : PE c Γ D (.cmp op a b) := by
  intro e sc hc
  refine inv_cmp hc fun xa xb p e0 h1 h2 h3 => ?_
  subst e0
  have main : ∀ (env : Env) (A : Around) (μ : Nat → Addr) (σ : St) (s : Shared) (ℓ : Loc) (E : Value → Shared → Prop) (Q : V → St → Prop) (K : Value → Shared → Prop), env.scope = sc → Here c env A D μ σ s ℓ → wE Γ (.cmp op a b) ℓ σ Q →
      (∀ v s', PostE c.toCx μ σ s.heap Q v s' → K v s') →
      wpAny c.M A (eval xa env) (fun l s₁ => wpAny c.M A (eval xb env) (fun r s₂ => wpAny c.M A (compareOp op l r) K E s₂) E s₁) E s := by
    intro env A μ σ s ℓ E Q K hs X q hk
    refine onE X ((ha _ _ h1).1 env A μ σ s ℓ E _ hs X q) fun v s₁ μ₁ σ₁ x q₁ X₁ S₁ r₁ => ?_
    refine onE X₁ ((hb _ _ h2).1 env A μ₁ σ₁ s₁ ℓ E _ hs X₁ q₁) fun w s₂ μ₂ σ₂ y q₂ X₂ S₂ r₂ => ?_
    exact wpAny_mono (cmp_any S X₂.H X₂.R (r₁.step X₁.R S₂) r₂ q₂) (fun ζ ζ z => hk _ _ (PostE.from_ (S₁.trans S₂) z)) fun ζ ζ z => z
  refine ⟨fun env A μ σ s ℓ E Q hs X q => ?_, fun env A μ σ s ℓ E Q hs X q => ?_⟩
  · show wpAny _ _ (do compareChain p (← eval xa env) [op] (markedEach [op] [xb] (evalEach [xb] env))) _ _ _
    rw [show evalEach [xb] env = [eval xb env] from rfl, marked_one h3]
    refine wpAny_bind (wpAny_mono (main env A μ σ s ℓ E Q _ hs X q fun ζ ζ z => z) (fun v s₁ h₁ => ?_) fun ζ ζ z => z)
    exact wpAny_bind (wpAny_holding (wpAny_mono h₁ (fun w s₂ h₂ => wpAny_bind (wpAny_standAt (wpAny_operating h₂))) fun ζ ζ z => z))
  · show wpAny _ _ (do testChain p (← eval xa env) [op] (markedEach [op] [xb] (evalEach [xb] env))) _ _ _
    rw [show evalEach [xb] env = [eval xb env] from rfl, marked_one h3]
    refine wpAny_bind (wpAny_mono (main env A μ σ s ℓ E _ (fun v s' => wpAny c.M A (truthy v) (PostB c.toCx μ σ s.heap Q) E s') hs X q fun v s' z => ?_) (fun v s₁ h₁ => ?_) fun ζ ζ z => z)
    · obtain ⟨μ₁, σ₁, x, q₁, R₁, S₁, r₁⟩ := z
      exact wpAny_mono (truthy_of R₁ r₁ q₁) (fun ζ ζ z => PostB.from_ S₁ z) fun ζ ζ z => z
    · exact wpAny_bind (wpAny_holding (wpAny_mono h₁ (fun w s₂ h₂ => wpAny_bind (wpAny_standAt (wpAny_bind (wpAny_operating (wpAny_mono h₂ (fun ζ ζ z => wpAny_holding z) fun ζ ζ z => z))))) fun ζ ζ z => z))

theorem case_ite {t a b : IE} (ht : PE c Γ D t) (ha : PE c Γ D a) (hb : PE c Γ D b) : PE c Γ D (.ite t a b) := by
  intro e sc hc
  refine inv_ite hc fun ec ea eb p e0 h1 h2 h3 => ?_
  subst e0
  refine ⟨fun env A μ σ s ℓ E Q hs X q => ?_, fun env A μ σ s ℓ E Q hs X q => ?_⟩
  · show wpAny _ _ (do if ← isTrue _ env (eval _ env) then eval _ env else eval _ env) _ _ _
    refine wpAny_bind (wpAny_mono ((ht _ _ h1).2 env A μ σ s ℓ E (fun r σ => ifB r (wE Γ a ℓ σ Q) (wE Γ b ℓ σ Q)) hs X q) (fun r s₁ z => ?_) fun ζ ζ z => z)
    · obtain ⟨μ₁, σ₁, q₁, R₁, S₁⟩ := z
      cases r with
      | true => exact wpAny_mono ((ha _ _ h2).1 env A μ₁ σ₁ s₁ ℓ E Q hs (X.step R₁ S₁) q₁) (fun ζ ζ z => PostE.from_ S₁ z) fun ζ ζ z => z
      | false => exact wpAny_mono ((hb _ _ h3).1 env A μ₁ σ₁ s₁ ℓ E Q hs (X.step R₁ S₁) q₁) (fun ζ ζ z => PostE.from_ S₁ z) fun ζ ζ z => z
  · show wpAny _ _ (do if ← isTrue _ env (eval _ env) then isTrue _ env (eval _ env) else isTrue _ env (eval _ env)) _ _ _
    refine wpAny_bind (wpAny_mono ((ht _ _ h1).2 env A μ σ s ℓ E (fun r σ => ifB r (wE Γ a ℓ σ (fun v σ => boolV v fun b => Q b σ)) (wE Γ b ℓ σ (fun v σ => boolV v fun b => Q b σ))) hs X q) (fun r s₁ z => ?_) fun ζ ζ z => z)
    · obtain ⟨μ₁, σ₁, q₁, R₁, S₁⟩ := z
      cases r with
      | true => exact wpAny_mono ((ha _ _ h2).2 env A μ₁ σ₁ s₁ ℓ E Q hs (X.step R₁ S₁) q₁) (fun ζ ζ z => PostB.from_ S₁ z) fun ζ ζ z => z
      | false => exact wpAny_mono ((hb _ _ h3).2 env A μ₁ σ₁ s₁ ℓ E Q hs (X.step R₁ S₁) q₁) (fun ζ ζ z => PostB.from_ S₁ z) fun ζ ζ z => z

/- each of a list -/
noncomputable def AllE (c : Cy) (Γ : Env') (D : Nat) : IEs → Prop
  | .nil => True
  | .cons e l => PE c Γ D e ∧ AllE c Γ D l

theorem no_star {T : CT} {e : Expr} {i : IE} (hc : chkE T i sc e = true) (r : List Expr) (env : Env) : starEach (e :: r) env = (false, eval e env) :: starEach r env := by
  cases e with
  | Starred x p => exact chk_good hc rfl
  | _ => rfl

theorem sim_es : ∀ (l : IEs) (es : List Expr), AllE c Γ D l → chkEs c.T l sc es = true → ∀ (pos : Pos) (env : Env) (A : Around) (μ : Nat → Addr) (σ : St) (s : Shared) (ℓ : Loc) (E : Value → Shared → Prop) (Q : List V → St → Prop), env.scope = sc →
    Here c env A D μ σ s ℓ → wEs Γ l ℓ σ Q → wpAny c.M A (spliced (backTo pos (starEach es env))) (fun vs s' => vs.length = es.length ∧ PostEs c.toCx μ σ s.heap Q vs s') E s
  | .nil, es, _, hc, pos, env, A, μ, σ, s, ℓ, E, Q, hs, X, q => by
    rw [inv_nil hc]
    exact spliced_nil ⟨rfl, μ, σ, [], q, X.R, Step.refl .., rfl⟩
  | .cons i l, es, ha, hc, pos, env, A, μ, σ, s, ℓ, E, Q, hs, X, q => by
    refine inv_cons hc fun e r e0 h1 h2 => ?_
    subst e0
    refine spliced_more ?_ (no_star h1 r env)
    refine onE X ((ha.1 _ _ h1).1 env A μ σ s ℓ E _ hs X q) fun v s₁ μ₁ σ₁ x q₁ X₁ S₁ r₁ => ?_
    refine wpAny_mono (sim_es l r ha.2 h2 pos env A μ₁ σ₁ s₁ ℓ E _ hs X₁ q₁) (fun vs s₂ ⟨hl, z⟩ => ?_) fun ζ ζ z => z
    obtain ⟨μ₂, σ₂, xs, q₂, R₂, S₂, r₂⟩ := z
    exact ⟨by rw [List.length_cons, List.length_cons, hl], μ₂, σ₂, x :: xs, q₂, R₂, S₁.trans S₂, v, vs, rfl, r₁.step X₁.R S₂, r₂⟩

theorem sim_bv : ∀ (l : IEs) (es : List Expr) (op : BoolOp), AllE c Γ D l → chkEs c.T l sc es = true → ∀ (pos : Pos) (env : Env) (A : Around) (μ : Nat → Addr) (σ : St) (s : Shared) (ℓ : Loc) (E : Value → Shared → Prop) (Q : Bool → St → Prop), env.scope = sc →
    Here c env A D μ σ s ℓ → wB Γ op l ℓ σ Q → wpAny c.M A (boolOp pos op (evalEach es env)) (fun v s' => ∃ b, v = .bool b ∧ PostB c.toCx μ σ s.heap Q b s') E s
  | .nil, _, op, _, _, _, _, _, _, _, _, _, _, _, _, _, q => q.elim
  | .cons i .nil, es, op, ha, hc, pos, env, A, μ, σ, s, ℓ, E, Q, hs, X, q => by
    refine inv_cons hc fun e r e0 h1 h2 => ?_
    subst e0
    rw [inv_nil h2]
    have q' : wE Γ i ℓ σ fun v σ => boolV v fun b => Q b σ := by cases op <;> exact q
    show wpAny _ _ (eval e env) _ _ _
    refine onE X ((ha.1 _ _ h1).1 env A μ σ s ℓ E _ hs X q') fun v s₁ μ₁ σ₁ x q₁ X₁ S₁ r₁ => ?_
    cases x with
    | bool b => exact ⟨b, r₁, μ₁, σ₁, q₁, X₁.R, S₁⟩
    | _ => exact q₁.elim
  | .cons i (.cons j l), es, op, ha, hc, pos, env, A, μ, σ, s, ℓ, E, Q, hs, X, q => by
    refine inv_cons hc fun e r e0 h1 h2 => ?_
    subst e0
    refine inv_cons h2 fun e2 r2 e0 h3 h4 => ?_
    subst e0
    show wpAny _ _ (do
      let v ← eval e env
      standAt pos
      let t ← holding [v] (truthy v)
      match op, t with
      | .And, false | .Or, true => pure v
      | _, _ => boolOp pos op (evalEach (e2 :: r2) env)) _ _ _
    cases op with
    | And =>
      refine wpAny_bind (onE X ((ha.1 _ _ h1).1 env A μ σ s ℓ E _ hs X q) fun v s₁ μ₁ σ₁ x q₁ X₁ S₁ r₁ => ?_)
      cases x with
      | bool b =>
        rw [show v = .bool b from r₁]
        refine wpAny_bind (wpAny_standAt (wpAny_bind (wpAny_holding (wpAny_truthy_bool ?_))))
        cases b with
        | true => exact wpAny_mono (sim_bv (.cons j l) (e2 :: r2) .And ha.2 h2 pos env A μ₁ σ₁ s₁ ℓ E Q hs X₁ q₁) (fun _ _ ⟨b, z1, z2⟩ => ⟨b, z1, PostB.from_ S₁ z2⟩) fun ζ ζ z => z
        | false => exact wpAny_pure ⟨_, rfl, μ₁, σ₁, q₁, X₁.R, S₁⟩
      | _ => exact q₁.elim
    | Or =>
      refine wpAny_bind (onE X ((ha.1 _ _ h1).1 env A μ σ s ℓ E _ hs X q) fun v s₁ μ₁ σ₁ x q₁ X₁ S₁ r₁ => ?_)
      cases x with
      | bool b =>
        rw [show v = .bool b from r₁]
        refine wpAny_bind (wpAny_standAt (wpAny_bind (wpAny_holding (wpAny_truthy_bool ?_))))
        cases b with
        | false => exact wpAny_mono (sim_bv (.cons j l) (e2 :: r2) .Or ha.2 h2 pos env A μ₁ σ₁ s₁ ℓ E Q hs X₁ q₁) (fun _ _ ⟨b, z1, z2⟩ => ⟨b, z1, PostB.from_ S₁ z2⟩) fun ζ ζ z => z
        | true => exact wpAny_pure ⟨_, rfl, μ₁, σ₁, q₁, X₁.R, S₁⟩
      | _ => exact q₁.elim

theorem sim_bt : ∀ (l : IEs) (es : List Expr) (op : BoolOp), AllE c Γ D l → chkEs c.T l sc es = true → ∀ (env : Env) (A : Around) (μ : Nat → Addr) (σ : St) (s : Shared) (ℓ : Loc) (E : Value → Shared → Prop) (Q : Bool → St → Prop), env.scope = sc →
    Here c env A D μ σ s ℓ → wB Γ op l ℓ σ Q → wpAny c.M A (allTrue op es env) (PostB c.toCx μ σ s.heap Q) E s
  | .nil, _, op, _, _, _, _, _, _, _, _, _, _, _, _, q => q.elim
  | .cons i .nil, es, op, ha, hc, env, A, μ, σ, s, ℓ, E, Q, hs, X, q => by
    refine inv_cons hc fun e r e0 h1 h2 => ?_
    subst e0
    rw [inv_nil h2]
    have q' : wE Γ i ℓ σ fun v σ => boolV v fun b => Q b σ := by cases op <;> exact q
    show wpAny _ _ (do
      match op, ← isTrue e env (eval e env) with
      | .And, false => pure false
      | .Or, true => pure true
      | _, _ => allTrue op [] env) _ _ _
    refine wpAny_bind (wpAny_mono ((ha.1 _ _ h1).2 env A μ σ s ℓ E _ hs X q') (fun b s₁ z => ?_) fun ζ ζ z => z)
    cases op <;> cases b <;> exact wpAny_pure z
  | .cons i (.cons j l), es, op, ha, hc, env, A, μ, σ, s, ℓ, E, Q, hs, X, q => by
    refine inv_cons hc fun e r e0 h1 h2 => ?_
    subst e0
    show wpAny _ _ (do
      match op, ← isTrue e env (eval e env) with
      | .And, false => pure false
      | .Or, true => pure true
      | _, _ => allTrue op r env) _ _ _
    cases op with
    | And =>
      refine wpAny_bind (wpAny_mono ((ha.1 _ _ h1).2 env A μ σ s ℓ E (fun b σ => ifB b (wB Γ .And (.cons j l) ℓ σ Q) (Q false σ)) hs X q) (fun b s₁ z => ?_) fun ζ ζ z => z)
      obtain ⟨μ₁, σ₁, q₁, R₁, S₁⟩ := z
      cases b with
      | true => exact wpAny_mono (sim_bt (.cons j l) r .And ha.2 h2 env A μ₁ σ₁ s₁ ℓ E Q hs (X.step R₁ S₁) q₁) (fun ζ ζ z => PostB.from_ S₁ z) fun ζ ζ z => z
      | false => exact wpAny_pure ⟨μ₁, σ₁, q₁, R₁, S₁⟩
    | Or =>
      refine wpAny_bind (wpAny_mono ((ha.1 _ _ h1).2 env A μ σ s ℓ E (fun b σ => ifB b (Q true σ) (wB Γ .Or (.cons j l) ℓ σ Q)) hs X q) (fun b s₁ z => ?_) fun ζ ζ z => z)
      obtain ⟨μ₁, σ₁, q₁, R₁, S₁⟩ := z
      cases b with
      | false => exact wpAny_mono (sim_bt (.cons j l) r .Or ha.2 h2 env A μ₁ σ₁ s₁ ℓ E Q hs (X.step R₁ S₁) q₁) (fun ζ ζ z => PostB.from_ S₁ z) fun ζ ζ z => z
      | true => exact wpAny_pure ⟨μ₁, σ₁, q₁, R₁, S₁⟩

theorem case_bop {op : BoolOp} {l : IEs} (ha : AllE c Γ D l) : PE c Γ D (.bop op l) := by
  intro e sc hc
  refine inv_bop hc fun vs p e0 h1 => ?_
  subst e0
  refine ⟨fun env A μ σ s ℓ E Q hs X q => ?_, fun env A μ σ s ℓ E Q hs X q => ?_⟩
  · refine wpAny_mono (sim_bv l _ op ha h1 _ env A μ σ s ℓ E (fun b σ => Q (.bool b) σ) hs X q) (fun v s₁ ⟨b, e, z⟩ => ?_) fun ζ ζ z => z
    obtain ⟨μ₁, σ₁, q₁, R₁, S₁⟩ := z
    exact ⟨μ₁, σ₁, .bool b, q₁, R₁, S₁, e⟩
  · exact sim_bt l _ op ha h1 env A μ σ s ℓ E Q hs X q

theorem case_tup {l : IEs} (ha : AllE c Γ D l) : PE c Γ D (.tup l) := by
  intro e sc hc
  refine inv_tup hc fun es k p e0 h0 h1 => ?_
  subst e0
  have z : SimE c Γ D sc (.Tuple es k p) (.tup l) := fun env A μ σ s ℓ E Q hs X q => by
    refine Tuple_ (wpAny_mono (sim_es l _ ha h1 _ env A μ σ s ℓ E (fun vs σ => Q (.tup vs) σ) hs X q) (fun vs s₁ ⟨hl, z⟩ => ?_) fun ζ ζ z => z)
    obtain ⟨μ₁, σ₁, xs, q₁, R₁, S₁, r₁⟩ := z
    exact wpAny_mono (newTuple_op R₁ r₁ (by rw [hl]; exact Nat.le_trans (Nat.le_of_lt h0) (by decide)) q₁) (fun ζ ζ z => PostE.from_ S₁ z) fun ζ ζ z => z
  exact ⟨z, simT_of z fun ζ => rfl⟩
theorem case_list {l : IEs} (ha : AllE c Γ D l) : PE c Γ D (.list l) := by
  intro e sc hc
  refine inv_list hc fun es p e0 h0 h1 => ?_
  subst e0
  have z : SimE c Γ D sc (.List es p) (.list l) := fun env A μ σ s ℓ E Q hs X q => by
    refine List_ (wpAny_mono (sim_es l _ ha h1 _ env A μ σ s ℓ E (fun vs σ => Q (.obj σ.len) (σ.add (.list vs))) hs X q) (fun vs s₁ ⟨hl, z⟩ => ?_) fun ζ ζ z => z)
    obtain ⟨μ₁, σ₁, xs, q₁, R₁, S₁, r₁⟩ := z
    exact wpAny_mono (newList_op R₁ r₁ (by rw [hl]; exact Nat.le_trans (Nat.le_of_lt h0) (by decide)) q₁) (fun ζ ζ z => PostE.from_ S₁ z) fun ζ ζ z => z
  exact ⟨z, simT_of z fun ζ => rfl⟩
end
end Mine.Internal
end
section
open PySem PySem.W PySem.Calls PyProof.Rows
set_option maxRecDepth 100000
namespace Mine.Internal

section
variable {c : Cy} {μ μ' : Nat → Addr} {σ σ' : St} {s s' : Shared} {h h' : Heap} {P : Addr → Prop} {n n' : Nat} {env : Env} {A : Around} {ℓ : Loc} {E : Value → Shared → Prop} {D : Nat} {Γ : Env'} {sc : Scope} {e : Expr} {ie : IE}

set_option tactic.hygienic true in
theorem attrBase {o : Expr} {attr : Str} {env : Env} {w : Sem Value} (hn : noSup o = true) : attributeBase o attr env w = w := by
  cases o <;> first | rfl | skip
  rename_i f _ _ _
  cases f <;> first | rfl | exact no_true hn

theorem attr_node {v : Expr} {a : Str} {p : Pos} {K : Value → Shared → Prop} (hn : noSup v = true) (hw : wpAny c.M A (eval v env) (fun o s₁ => wpAny c.M A (getAttr o a true) K E s₁) E s) : wpAny c.M A (eval (.Attribute v a p) env) K E s := by
  rw [arm_eval_Attribute, attrBase hn]
  refine wpAny_bind (wpAny_mono hw (fun o s₁ h₁ => wpAny_bind (wpAny_standAt (wpAny_bind (wpAny_holding (wpAny_mono h₁ (fun r s₂ h₂ => ?_) fun ζ ζ z => z))))) fun ζ ζ z => z)
  exact wpAny_bind (wpAny_letTemporaryGo (wpAny_pure h₂))

theorem case_attr (S : SetUp c Γ D) {a : IE} {m : Nat} (ha : PE c Γ D a) : PE c Γ D (.attr a m) := by
  intro e sc hc
  refine inv_attr hc fun v nm p e0 h1 h2 h3 => ?_
  subst e0
  have z : SimE c Γ D sc (.Attribute v nm p) (.attr a m) := fun env A μ σ s ℓ E Q hs X q => by
    rw [S.at_] at h2
    obtain ⟨rfl, _⟩ := attrIx_name h2
    refine attr_node h3 (onE X ((ha _ _ h1).1 env A μ σ s ℓ E _ hs X q) fun v s₁ μ₁ σ₁ x q₁ X₁ S₁ r₁ => ?_)
    exact wpAny_mono (attr_op S.C S.F X₁.R r₁ q₁) (fun ζ ζ z => PostE.from_ S₁ z) fun ζ ζ z => z
  exact ⟨z, simT_of z fun ζ => rfl⟩

theorem subscripted_plain {u : Expr} {o i : Value} {T : CT} {j : IE} (hu : chkE T j sc u = true) : subscripted u false o i = operate [o, i] (getItem o i) := by
  cases u with
  | Slice a b d p => exact chk_good hu rfl
  | _ => rfl

theorem case_sub (S : SetUp c Γ D) {a b : IE} (ha : PE c Γ D a) (hb : PE c Γ D b) : PE c Γ D (.sub a b) := by
  intro e sc hc
  refine inv_sub hc fun v u p e0 h1 h2 => ?_
  subst e0
  have z : SimE c Γ D sc (.Subscript v u p) (.sub a b) := fun env A μ σ s ℓ E Q hs X q => by
    refine Subscript_ (onE X ((ha _ _ h1).1 env A μ σ s ℓ E _ hs X q) fun v s₁ μ₁ σ₁ x q₁ X₁ S₁ r₁ => ?_)
    refine onE X₁ ((hb _ _ h2).1 env A μ₁ σ₁ s₁ ℓ E _ hs X₁ q₁) fun w s₂ μ₂ σ₂ y q₂ X₂ S₂ r₂ => ?_
    have rx := r₁.step X₁.R S₂
    obtain ⟨T, id, hT, hl⟩ := sub_lookup X₂.R rx q₂
    refine tail_any hT hl ?_ (subscripted_plain h2)
    exact wpAny_mono (sub_op X₂.H X₂.R rx r₂ q₂) (fun ζ ζ z => PostE.from_ (S₁.trans S₂) z) fun ζ ζ z => z
  exact ⟨z, simT_of z fun ζ => rfl⟩

theorem case_slice {a b : IE} (ha : PE c Γ D a) (hb : PE c Γ D b) : PE c Γ D (.slice a b) := by
  intro e sc hc
  refine inv_slice hc fun v u q' p e0 h1 h2 => ?_
  subst e0
  have z : SimE c Γ D sc (.Subscript v (.Slice none (some u) none q') p) (.slice a b) := fun env A μ σ s ℓ E Q hs X q => by
    refine Subscript_ (onE X ((ha _ _ h1).1 env A μ σ s ℓ E _ hs X q) fun v s₁ μ₁ σ₁ x q₁ X₁ S₁ r₁ => ?_)
    refine wpAny_Slice ?_
    rw [evalPart_none]
    refine wpAny_pure ?_
    rw [evalPart_some]
    refine onE X₁ ((hb _ _ h2).1 env A μ₁ σ₁ s₁ ℓ E _ hs X₁ q₁) fun w s₂ μ₂ σ₂ y q₂ X₂ S₂ r₂ => ?_
    refine wpAny_pure ?_
    have k := keep_push (h := s₂.heap) ({ cls := .type "slice", data := .fields #[.none, w, .none] } : Obj)
    have R₃ := X₂.R.grow k (tk := s₂.toks)
    have S₃ : Step noP μ₂ σ₂ s₂.heap μ₂ σ₂ (s₂.heap.push { cls := .type "slice", data := .fields #[.none, w, .none] }) := Step.grow k
    have rx := (r₁.step X₁.R S₂).step X₂.R S₃
    have ry := r₂.step X₂.R S₃
    have hT : ∃ l, (∃ i, x = .obj i ∧ σ₂.get i = some (.list l)) := by
      cases x <;> first | exact (show False from q₂).elim | skip
      cases y <;> first | exact (show False from q₂).elim | skip
      exact listO_out q₂ fun l g ζ => ⟨_, _, rfl, g⟩
    obtain ⟨l, i, rfl, g⟩ := hT
    have rx' := rx
    obtain ⟨_, ev⟩ := rx'
    subst ev
    obtain ⟨xs, kk, g', _⟩ := R₃.obj _ _ g
    refine tail_any (T := "list") (s := { s₂ with heap := s₂.heap.push { cls := .type "slice", data := .fields #[.none, w, .none] } }) ⟨_, g', rfl⟩ slot_list_getitem.lookup ?_ rfl
    exact wpAny_mono (slice_op (s := { s₂ with heap := s₂.heap.push { cls := .type "slice", data := .fields #[.none, w, .none] } }) R₃ rx ry (Heap.IsSliceOf.new ..) q₂) (fun ζ ζ z => PostE.from_ ((S₁.trans S₂).trans S₃) z) fun ζ ζ z => z
  exact ⟨z, simT_of z fun ζ => rfl⟩

theorem plain_args {T : CT} {l : IEs} {es : List Expr} (pos : Pos) (env : Env) (hc : chkEs T l sc es = true) : (backTo pos (starEach es env)).any (·.1) = false := by
  induction es generalizing l with
  | nil => rfl
  | cons e r ih =>
    cases l with
    | nil => exact no_true hc
    | cons i l =>
      obtain ⟨h1, h2⟩ := band_of hc
      rw [no_star h1]
      show (false || (backTo pos (starEach r env)).any (·.1)) = false
      rw [Bool.false_or]; exact ih h2

/- a call by any callee whose keeper is known -/
theorem call_with {f : Value} {first : List Value} {l : IEs} {es : List Expr} {K : Value → Shared → Prop} {pos : Pos} {env : Env} {Q : List V → St → Prop} (S : SetUp c Γ D) (hk : ∀ h, c.K.In h → ∃ k, (k = Keeper.frame ∨ k = Keeper.machine ∨ k = Keeper.boundFrame) ∧ Looks c.M h (keeperOf f) k)
    (ha : AllE c Γ D l) (hc : chkEs c.T l sc es = true) (hs : env.scope = sc) (X : Here c env A D μ σ s ℓ) (q : wEs Γ l ℓ σ Q)
    (k : ∀ vs' s₁ μ₁ σ₁ vs, Q vs σ₁ → Here c env A D μ₁ σ₁ s₁ ℓ → Step noP μ σ s.heap μ₁ σ₁ s₁.heap → VsRel μ₁ σ₁.len s₁.heap vs vs' → wpAny c.M A (call f (first ++ vs')) K E s₁) :
    wpAny c.M A (callWith pos f first (backTo pos (starEach es env)) []) K E s := by
  refine callWith_of (P := c.K.In) (by rw [plain_args pos env hc]; rfl) hk ?_
  cases l with
  | nil =>
    rw [inv_nil hc]
    exact PySem.evalArgs_none ⟨S.C.K.keeps X.R.keep, k [] s μ σ [] q X (Step.refl ..) rfl⟩
  | cons i r =>
    refine inv_cons hc fun e r e0 h1 h2 => ?_
    subst e0
    have hw := sim_es _ _ ha hc pos env A μ σ s ℓ E Q hs X q
    rw [no_star h1] at hw ⊢
    refine Calls.evalArgs_plain (wpAny_mono hw (fun vs s₁ ⟨_, z⟩ => ?_) fun ζ ζ z => z)
    obtain ⟨μ₁, σ₁, xs, q₁, R₁, S₁, r₁⟩ := z
    exact ⟨S.C.K.keeps R₁.keep, k vs s₁ μ₁ σ₁ xs q₁ (X.step R₁ S₁) S₁ r₁⟩

theorem keeps_pure {f : Value} (hf : keeperOf f = pure .machine) : ∀ h, c.K.In h → ∃ k, (k = Keeper.frame ∨ k = Keeper.machine ∨ k = Keeper.boundFrame) ∧ Looks c.M h (keeperOf f) k :=
  fun ζ ζ => ⟨.machine, .inr (.inl rfl), Looks.of_pure hf⟩

/- a callee by name -/
theorem call_name {x : Str} {p1 p : Pos} {m : Nat} {fv : Value} {l : IEs} {es : List Expr} {K : Value → Shared → Prop} {Q : List V → St → Prop} {g : GV} (S : SetUp c Γ D) (hi : idxOf x sc.names 0 = some (m, .globalImplicit)) (hg : globOf c.T x = some g)
    (hv : c.mg x = some fv ∨ (c.mg x = none ∧ c.mb x = some fv)) (hk : ∀ h, c.K.In h → ∃ k, (k = Keeper.frame ∨ k = Keeper.machine ∨ k = Keeper.boundFrame) ∧ Looks c.M h (keeperOf fv) k)
    (ha : AllE c Γ D l) (hc : chkEs c.T l sc es = true) (hs : env.scope = sc) (X : Here c env A D μ σ s ℓ) (q : wEs Γ l ℓ σ Q)
    (k : ∀ vs' s₁ μ₁ σ₁ vs, Q vs σ₁ → Here c env A D μ₁ σ₁ s₁ ℓ → Step noP μ σ s.heap μ₁ σ₁ s₁.heap → VsRel μ₁ σ₁.len s₁.heap vs vs' → wpAny c.M A (call fv vs') K E s₁) :
    wpAny c.M A (eval (.Call (.Name x p1) es [] p) env) K E s :=
  wpAny_Call_NameR (wpAny_Name (load_glob X.O S.C X.R (hs ▸ hi) hv (call_with S hk ha hc hs X q k)) (S.dbg x g hg))

theorem keeps_in {a : Addr} (hk : keepIn c.K (.ref a) = true) : ∀ h, c.K.In h → ∃ k, (k = Keeper.frame ∨ k = Keeper.machine ∨ k = Keeper.boundFrame) ∧ Looks c.M h (keeperOf (.ref a)) k := keeps_K hk

theorem case_isi (S : SetUp c Γ D) {f : Fn} {t : Str} {l : IEs} (h5 : isiT f = some t) (ha : AllE c Γ D l) : PE c Γ D (.call f l) := by
  intro e sc hc
  refine inv_isi hc h5 fun fn p1 a p2 p n m i k e0 e1 h1 h6 h2 h3 h4 => ?_
  subst e0 e1
  have z : SimE c Γ D sc (.Call (.Name fn p1) [a, .Name t p2] [] p) (.call f (.cons i .nil)) := fun env A μ σ s ℓ E Q hs X q => by
    subst h3
    have ht : ∃ T : String, t = (T : Str) ∧ T ∈ (["int", "str", "tuple", "bool"] : List String) ∧ ((T = "int" ∧ f = .isInt) ∨ (T = "str" ∧ f = .isStr) ∨ (T = "tuple" ∧ f = .isTuple) ∨ (T = "bool" ∧ f = .isBool)) ∧ (t == ("__debug__" : Str)) = false := by
      rcases isiT_some h5 with ⟨rfl, rfl⟩ | ⟨rfl, rfl⟩ | ⟨rfl, rfl⟩ | ⟨rfl, rfl⟩
      · exact ⟨"int", rfl, by simp, .inl ⟨rfl, rfl⟩, by decide⟩
      · exact ⟨"str", rfl, by simp, .inr (.inl ⟨rfl, rfl⟩), by decide⟩
      · exact ⟨"tuple", rfl, by simp, .inr (.inr (.inl ⟨rfl, rfl⟩)), by decide⟩
      · exact ⟨"bool", rfl, by simp, .inr (.inr (.inr ⟨rfl, rfl⟩)), by decide⟩
    obtain ⟨T, rfl, hT, hf, hd⟩ := ht
    refine wpAny_Call_NameR (wpAny_Name (load_glob X.O S.C X.R (hs ▸ h1) (.inr S.isi) ?_) (by decide))
    refine callWith_of (P := c.K.In) (by rw [no_star h4]; rfl) (keeps_pure rfl) ?_
    rw [no_star h4]
    refine Calls.evalArgs_plain (spliced_cons (onE X ((ha.1 _ _ h4).1 env A μ σ s ℓ E _ hs X q) fun v s₁ μ₁ σ₁ x q₁ X₁ S₁ r₁ => ?_))
    refine spliced_cons (wpAny_Name (load_glob X₁.O S.C X₁.R (hs ▸ h6) (.inr (S.tys T hT)) (spliced_nil ⟨S.C.K.keeps X₁.R.keep, ?_⟩)) hd)
    exact wpAny_mono (isi_fn_op X₁.R r₁ hf q₁) (fun ζ ζ z => PostE.from_ S₁ z) fun ζ ζ z => z
  exact ⟨z, simT_of z fun ζ => rfl⟩
theorem case_fn (S : SetUp c Γ D) (SO : SortOp c D Γ.srt) {f : Fn} {l : IEs} (hn : ∀ k, f ≠ .cls k) (h5 : isiT f = none) (ha : AllE c Γ D l) : PE c Γ D (.call f l) := by
  intro e sc hc
  refine inv_fn hc hn h5 fun x p1 args p n e0 h1 h2 h3 h4 => ?_
  subst e0
  have z : SimE c Γ D sc (.Call (.Name x p1) args [] p) (.call f l) := fun env A μ σ s ℓ E Q hs X q => by
    cases hv : fnVal f with
    | some fv =>
      have hf : keeperOf fv = pure .machine := by cases f <;> cases hv <;> rfl
      refine call_name S h1 h2 (.inr (S.bi x f fv h2 hv)) (keeps_pure hf) ha h4 hs X q fun vs' s₁ μ₁ σ₁ vs q₁ X₁ S₁ r₁ => ?_
      exact wpAny_mono (bi_op SO hv X₁.H X₁.R r₁ q₁) (fun ζ ζ z => PostE.from_ S₁ z) fun ζ ζ z => z
    | none =>
      rcases S.fns x f h2 with hb | hb | ⟨k, rfl⟩
      · rw [h3] at hb; cases hb
      · rw [hv] at hb; cases hb
      · obtain ⟨e1, e2⟩ := S.usr x k h2
        refine call_name S h1 h2 (.inl e1) (keeps_in e2) ha h4 hs X q fun vs' s₁ μ₁ σ₁ vs q₁ X₁ S₁ r₁ => ?_
        exact wpAny_mono (usr_op (S.sim k) X₁.H X₁.R r₁ q₁) (fun ζ ζ z => PostE.from_ S₁ z) fun ζ ζ z => z
  exact ⟨z, simT_of z fun ζ => rfl⟩
theorem callV_cls {k : Nat} {vs : List V} {Q : V → St → Prop} (hk : k ≠ 6) (q : callV Γ (.cls k) vs σ Q) : Γ.fn (initId k) (.obj σ.len :: vs) (σ.add (.inst k [])) (fun r σ' => r = .none ∧ Q (.obj σ.len) σ') (fun ζ ζ => False) := by
  rcases k with _ | _ | _ | _ | _ | _ | _ | k <;> first | exact q | exact absurd rfl hk
theorem case_cls (S : SetUp c Γ D) (XO : ExcOp c D) {k : Nat} {l : IEs} (ha : AllE c Γ D l) : PE c Γ D (.call (.cls k) l) := by
  intro e sc hc
  refine inv_callC hc fun x p1 args p n e0 h1 h2 h3 => ?_
  subst e0
  have z : SimE c Γ D sc (.Call (.Name x p1) args [] p) (.call (.cls k) l) := fun env A μ σ s ℓ E Q hs X q => by
    obtain ⟨e1, e2⟩ := S.cls x k h2
    refine call_name S h1 h2 (.inl e1) (keeps_in e2) ha h3 hs X q fun vs' s₁ μ₁ σ₁ vs q₁ X₁ S₁ r₁ => ?_
    by_cases hk : k = 6
    · subst hk
      exact one_out r₁ q₁ fun x v rb q => wpAny_mono (XO X₁.H X₁.R rb q) (fun ζ ζ z => PostE.from_ S₁ z) fun ζ ζ z => z
    · exact wpAny_mono (make_op S h2 hk X₁.H X₁.R r₁ (callV_cls hk q₁)) (fun ζ ζ z => PostE.from_ S₁ z) fun ζ ζ z => z
  exact ⟨z, simT_of z fun ζ => rfl⟩

theorem case_call (S : SetUp c Γ D) (SO : SortOp c D Γ.srt) (XO : ExcOp c D) {f : Fn} {l : IEs} (ha : AllE c Γ D l) : PE c Γ D (.call f l) := by
  cases h : isiT f with
  | some t => exact case_isi S h ha
  | none =>
    by_cases hk : ∃ k, f = .cls k
    · obtain ⟨k, rfl⟩ := hk; exact case_cls S XO ha
    · exact case_fn S SO (fun k e => hk ⟨k, e⟩) h ha
end
end Mine.Internal
end
section
open PySem PySem.W PySem.Calls PyProof.Rows
set_option maxRecDepth 100000
namespace Mine.Internal

section
variable {c : Cy} {μ μ' : Nat → Addr} {σ σ' : St} {s s' : Shared} {h h' : Heap} {P : Addr → Prop} {n n' : Nat} {env : Env} {A : Around} {ℓ : Loc} {E : Value → Shared → Prop} {D : Nat} {Γ : Env'} {sc : Scope} {e : Expr} {ie : IE}

theorem form_ok {l : IEs} {es : List Expr} {T : CT} (pos : Pos) (env : Env) (hc : chkEs T l sc es = true) (hz : es.length < 28) : methodCallForm (es.length + ([] : List Keyword).length) (backTo pos (starEach es env)) (backToKw pos (keywordEach [] env)) = true := by
  have h1 := plain_args pos env hc
  unfold methodCallForm
  rw [show (backTo pos (starEach es env)).all (fun x => !x.1) = true from by rw [List.all_eq_not_any_not]; simp only [Bool.not_not]; rw [h1]; rfl]
  show (true && true && decide (es.length + 0 + 0 < 30)) = true
  simp only [Bool.true_and, decide_eq_true_eq]
  omega

theorem call_attr {o : Expr} {nm : Str} {p2 p : Pos} {l : IEs} {es : List Expr} {K : Value → Shared → Prop} {T : CT} (hn : noSup o = true) (hp : p2.endLine = p.line) (hz : es.length < 28) (hc : chkEs T l sc es = true)
    (hw : ∀ pl, wpAny c.M A (eval o env) (fun ov s₁ => wpAny c.M A (getMethod ov nm pl) (fun fx s₂ => wpAny c.M A (callWith p fx.1 fx.2 (backTo p (starEach es env)) []) K E s₂) E s₁) E s) :
    wpAny c.M A (eval (.Call (.Attribute o nm p2) es [] p) env) K E s := by
  rw [arm_eval_Call, attrBase hn]
  refine wpAny_bind (wpAny_mono (hw (do return (← importBound o env).getD true)) (fun ov s₁ h₁ => wpAny_bind (wpAny_standAt ?_)) fun ζ ζ z => z)
  unfold methodCall
  rw [form_ok p env hc hz]
  refine wpAny_bind (wpAny_holding (wpAny_mono h₁ (fun fx s₂ h₂ => ?_) fun ζ ζ z => z))
  obtain ⟨f, first⟩ := fx
  refine wpAny_bind (m := methodCallPos true o env p2 p) ?_
  unfold methodCallPos
  rw [hp]
  simp only [Bool.not_true, beq_self_eq_true, Bool.or_true, if_true]
  exact wpAny_pure h₂

theorem case_base (S : SetUp c Γ D) {k : Nat} {l : IEs} (ha : AllE c Γ D l) : PE c Γ D (.base k l) := by
  intro e sc hc
  refine inv_base hc fun x p1 nm p2 args p i e0 h1 h2 h3 h4 h5 h6 => ?_
  subst e0
  have z : SimE c Γ D sc (.Call (.Attribute (.Name x p1) nm p2) args [] p) (.base k l) := fun env A μ σ s ℓ E Q hs X q => by
    subst h3
    obtain ⟨e1, e2⟩ := S.cls x k h2
    obtain ⟨b1, b2, b3, b4⟩ := S.base x k h2
    refine call_attr rfl h4 h5 h6 fun pl => wpAny_Name (load_glob X.O S.C X.R (hs ▸ h1) (.inl e1) ?_) (S.dbg x _ h2)
    refine method_cls (S.C.K.keeps X.R.keep) b1 (cls_value (S.C.K.keeps X.R.keep) b2 b3 rfl ?_)
    have X' : Here c env A D μ σ { s with toks := s.toks + 1 } ℓ := ⟨X.O, X.H, X.R.tok, X.L⟩
    refine call_with (s := { s with toks := s.toks + 1 }) S (keeps_in b4) ha h6 hs X' q fun vs' s₁ μ₁ σ₁ vs q₁ X₁ S₁ r₁ => ?_
    exact wpAny_mono (usr_op (S.sim (initId k)) X₁.H X₁.R r₁ q₁) (fun ζ ζ z => PostE.from_ S₁ z) fun ζ ζ z => z
  exact ⟨z, simT_of z fun ζ => rfl⟩

/- a method call: up to the call itself -/
theorem mcall_any (S : SetUp c Γ D) {o : Expr} {nm : Str} {p2 p : Pos} {a : IE} {m : Nat} {l : IEs} {es : List Expr} {K : Value → Shared → Prop} {Q X : V → St → Prop} (hs : env.scope = sc) (Z : Here c env A D μ σ s ℓ) (h1 : chkE c.T a sc o = true) (h2 : attrIx c.T.at_ nm 0 = some m)
    (h3 : chkEs c.T l sc es = true) (h4 : noSup o = true) (h5 : p2.endLine = p.line) (h6 : es.length < 28) (pa : PE c Γ D a) (ha : AllE c Γ D l)
    (q : wE Γ a ℓ σ fun v σ => methV v m σ fun mt => wEs Γ l ℓ σ fun vs σ => mcallV Γ mt v vs σ Q X)
    (k : ∀ mt v v' vs vs' s₁ μ₁ σ₁, Here c env A D μ₁ σ₁ s₁ ℓ → Step noP μ σ s.heap μ₁ σ₁ s₁.heap → VRel μ₁ σ₁.len s₁.heap v v' → VsRel μ₁ σ₁.len s₁.heap vs vs' → mcallV Γ mt v vs σ₁ Q X → wpAny c.M A (call (mtVal c mt) (v' :: vs')) K E s₁) :
    wpAny c.M A (eval (.Call (.Attribute o nm p2) es [] p) env) K E s := by
  rw [S.at_] at h2
  obtain ⟨rfl, _⟩ := attrIx_name h2
  refine call_attr h4 h5 h6 h3 fun pl => ?_
  refine onE Z ((pa _ _ h1).1 env A μ σ s ℓ E _ hs Z q) fun v s₁ μ₁ σ₁ x q₁ X₁ S₁ r₁ => ?_
  refine meth_op S X₁.R r₁ q₁ fun mt q₂ ok => ?_
  refine call_with S (f := mtVal c mt) (first := [v]) ?_ ha h3 hs X₁ q₂ fun vs' s₂ μ₂ σ₂ vs q₃ X₂ S₂ r₂ => ?_
  · cases mt with
    | usr id => exact keeps_in ok
    | append => exact keeps_pure rfl
    | get => exact keeps_pure rfl
    | startswith => exact keeps_pure rfl
  · exact k mt x v vs vs' s₂ μ₂ σ₂ X₂ (S₁.trans S₂) (r₁.step X₁.R S₂) r₂ q₃

theorem case_mcall (S : SetUp c Γ D) {a : IE} {m : Nat} {l : IEs} (pa : PE c Γ D a) (ha : AllE c Γ D l) : PE c Γ D (.mcall a m l) := by
  intro e sc hc
  refine inv_mcall hc fun o nm p2 args p e0 h1 h2 h3 h4 h5 h6 => ?_
  subst e0
  have z : SimE c Γ D sc (.Call (.Attribute o nm p2) args [] p) (.mcall a m l) := fun env A μ σ s ℓ E Q hs X q =>
    mcall_any S hs X h1 h2 h3 h4 h5 h6 pa ha q fun mt v v' vs vs' s₁ μ₁ σ₁ X₁ S₁ r1 r2 q₁ => wpAny_mono (mcall_op S X₁.H X₁.R r1 r2 q₁) (fun ζ ζ z => PostE.from_ S₁ z) fun ζ ζ z => z
  exact ⟨z, simT_of z fun ζ => rfl⟩

/- an untracked object that stands becomes a tracked one -/
theorem Rel.adopt (R : Rel c.toCx μ σ s) {o : O} {a : Addr} (ht : o.two = false) (ha : ∀ j, Used σ j → μ j ≠ a) (hB : c.B.get? a = none) (hnew : ORel c.toCx (ext μ σ.len a 0) (σ.len + 1) s.heap σ.len o) : Rel c.toCx (ext μ σ.len a 0) (σ.add o) s := by
  have old : ∀ j, Used σ j → ext μ σ.len a 0 j = μ j := fun j u => ext_lt (used_lt u)
  refine ⟨R.keep, R.gens, R.os, ?_, ?_, ?_⟩
  · intro j u
    rcases used_add.mp u with u | rfl | ⟨rfl, t⟩
    · rw [old j u]; exact R.news j u
    · rw [ext_even]; exact hB
    · rw [ht] at t; cases t
  · intro x y ux uy e
    rcases used_add.mp ux with ux | rfl | ⟨rfl, tx⟩ <;> rcases used_add.mp uy with uy | rfl | ⟨rfl, ty⟩
    · rw [old x ux, old y uy] at e; exact R.inj x y ux uy e
    · rw [old x ux, ext_even] at e; exact absurd e (ha x ux)
    · exact absurd (ht.symm.trans ty) (by decide)
    · rw [old y uy, ext_even] at e; exact absurd e.symm (ha y uy)
    · rfl
    · exact absurd (ht.symm.trans ty) (by decide)
    · exact absurd (ht.symm.trans tx) (by decide)
    · exact absurd (ht.symm.trans tx) (by decide)
    · exact absurd (ht.symm.trans tx) (by decide)
  · intro j oj gj
    rw [St.get_add] at gj
    rw [St.len_add]
    by_cases e : j = σ.len
    · rw [if_pos e] at gj; cases gj; subst e; exact hnew
    · rw [if_neg e] at gj
      have l := St.get_lt gj
      exact (R.obj j oj gj).mono (Nat.le_succ _) (fun i hi => ext_lt (by omega)) (TKeep.of_keeps fun ζ ζ e => e) (ext_lt (by omega)) (fun ob eb => eb) (fun ζ => ext_lt (by omega)) (fun ζ ob eb => eb)
theorem Step.adopt {P : Addr → Prop} (S : Step P μ σ h μ' σ' h') {o : O} {a : Addr} (ht : o.two = false) (ha : h.get? a = none) : Step P μ σ h (ext μ' σ'.len a 0) (σ'.add o) h' where
  live := S.live
  len := by rw [St.len_add]; have := S.len; omega
  mono := fun j u => used_add.mpr (.inl (S.mono j u))
  same := fun j u => (ext_lt (used_lt (S.mono j u))).trans (S.same j u)
  fresh := fun j u nu => by
    rcases used_add.mp u with u | rfl | ⟨rfl, t⟩
    · rw [ext_lt (used_lt u)]; exact S.fresh j u nu
    · rw [ext_even]; exact ha
    · rw [ht] at t; cases t
  keep := S.keep
  vers := fun i hi => by rw [St.ver_add _ _ (Nat.lt_of_lt_of_le hi S.len)]; exact S.vers i hi
  obj := fun i hi e => by
    have hi' := Nat.lt_of_lt_of_le hi S.len
    rw [St.ver_add _ _ hi'] at e
    rw [St.get_add, if_neg (Nat.ne_of_lt hi')]
    exact S.obj i hi e
  still := fun j u e => S.still j u (by
    have hi : j / 2 < σ.len := by obtain ⟨_, g, _⟩ := u; exact St.get_lt g
    rwa [St.ver_add _ _ (Nat.lt_of_lt_of_le hi S.len)] at e)

/- a change at an untracked address is none to the step -/
theorem Step.other {P : Addr → Prop} {h'' : Heap} (S : Step P μ σ h μ' σ' h') {a : Addr} (ha : h.get? a = none) (hs : ∀ b o, b ≠ a → h'.get? b = some o → h''.get? b = some o) : Step P μ σ h μ' σ' h'' where
  live := fun b o e => by
    obtain ⟨o', e'⟩ := S.live b o e
    exact ⟨o', hs b o' (fun q => by rw [q, ha] at e; cases e) e'⟩
  len := S.len
  mono := S.mono
  same := S.same
  fresh := S.fresh
  keep := fun b o e t n => hs b o (fun q => by rw [q, ha] at e; cases e) (S.keep b o e t n)
  vers := S.vers
  obj := S.obj
  still := fun j u e x o g => hs _ o (fun q => by rw [q, ha] at g; cases g) (S.still j u e x o g)
theorem SameBut.ext {a : Addr} (hs : Heap.SameBut a h h') : ∀ b o, b ≠ a → h.get? b = some o → h'.get? b = some o := fun b ζ n e => (hs.2 b n).trans e

theorem low_size (C : COk c) (R : Rel c.toCx μ σ s) : s.heap.objs.size ≠ sysModules := by
  have h1 := (C.g.keeps R.keep).lt
  intro e
  rw [e] at h1
  exact absurd h1 (by decide)

theorem stored_nil {K : Type} [DecidableEq K] {k : K} {v : Value} : stored ([] : List (K × Value)) k v = [(k, v)] := rfl
theorem storedH_nil {K : Type} [DecidableEq K] {k : K} {a : Addr} {v : Value} : storedH ([] : List (K × Addr × Value)) k a v = [(k, a, v)] := rfl

theorem dict_one {d : Addr} {k x : V} {kv v : Value} {K : Unit → Shared → Prop} (H : Room A D) (R : Rel c.toCx μ σ s) (hd : ∃ o ep, s.heap.get? d = some o ∧ o.ExactDict ∧ o.data = .dict #[] ep) (rk : VRel μ σ.len s.heap k kv) (rx : VRel μ σ.len s.heap x v) (hk : keyKind k ≠ 0)
    (q : ∀ h' tk, (TKeep s.heap h' → DRel c.toCx μ σ.len h' d [(k, x)]) → Heap.SameBut d s.heap h' → K () { s with heap := h', toks := tk }) : wpAny c.M A (dictSet d kv v) K E s := by
  rcases key_cases hk with ⟨j, rfl⟩ | ⟨j, rfl⟩ | ⟨y, z, rfl⟩
  · obtain ⟨t, rfl⟩ := rk
    refine wpAny_dictSet_pairs (knd := intKind c.prog c.w) (int_is _ _) (dictOf_nil hd) (fun h' hd' hs => q h' _ (fun tk => ?_) hs) (by decide)
    exact .inl ⟨_, hd', ⟨j, v, [], rfl, rfl, rx.mono (Nat.le_refl _) (fun ζ ζ => rfl) tk, rfl⟩⟩
  · obtain ⟨t, rfl⟩ := rk
    refine wpAny_dictSet_pairs (knd := PySem.strKind c.prog c.w) (str_is _ _) (dictOf_nil hd) (fun h' hd' hs => q h' _ (fun tk => ?_) hs) (by decide)
    exact .inr (.inl ⟨_, hd', ⟨j, v, [], rfl, rfl, rx.mono (Nat.le_refl _) (fun ζ ζ => rfl) tk, rfl⟩⟩)
  · refine tup_key (c := c) rk fun a hk => ?_
    refine wpAny_dictSet_heap (knd := tupleKind (intKind c.prog c.w)) (show A.units < cLine from by have := H.units64; omega) hk (dictOfH_nil hd) (fun h' hd' hs => q h' _ (fun tk => ?_) hs) (by decide)
    exact .inr (.inr ⟨_, hd', ⟨y, z, a, v, [], rfl, rfl, rx.mono (Nat.le_refl _) (fun ζ ζ => rfl) tk, rfl⟩⟩)

theorem case_dict (S : SetUp c Γ D) {l : IEs} (ha : AllE c Γ D l) : PE c Γ D (.dict l) := by
  intro e sc hc
  obtain ⟨p, ⟨rfl, rfl⟩ | ⟨ik, jv, k', v, rfl, rfl, hk1, hv1⟩⟩ := inv_dict hc
  · have z : SimE c Γ D sc (.Dict [] [] p) (.dict .nil) := fun env A μ σ s ℓ E Q hs X q => by
      have hmod := low_size S.C X.R
      refine wpAny_Dict_empty ?_
      have new : ORel c.toCx (ext μ σ.len s.heap.objs.size 0) (σ.len + 1) (s.heap.push emptyDict) σ.len (.dict []) := by
        refine ⟨?_, by rw [ext_even]; exact hmod⟩
        rw [ext_even]
        exact .inl ⟨[], Heap.DictOf.new _, rfl⟩
      obtain ⟨R', S'⟩ := X.R.add (o := .dict []) (a := s.heap.objs.size) (d := 0) (keep_push _) none_size (fun e => by cases e) new (tk := s.toks)
      exact ⟨_, _, .obj σ.len, q, R', S', by rw [St.len_add]; omega, by rw [ext_even]⟩
    exact ⟨z, simT_of z fun ζ => rfl⟩
  · have z : SimE c Γ D sc (.Dict [some k'] [v] p) (.dict (.cons ik (.cons jv .nil))) := fun env A μ σ s ℓ E Q hs X q => by
      have hmod := low_size S.C X.R
      refine wpAny_Dict_any rfl rfl (by simp) (by simp) ?_
      have k1 := keep_push (h := s.heap) emptyDict
      have X1 : Here c env A D μ σ { s with heap := s.heap.push emptyDict } ℓ := ⟨X.O, X.H, X.R.grow k1, X.L.step X.R (Step.grow k1)⟩
      have S1 : Step noP μ σ s.heap μ σ (s.heap.push emptyDict) := Step.grow k1
      refine evalPairs_cons (onE X1 ((ha.1 _ _ hk1).1 env A μ σ _ ℓ E _ hs X1 q) fun kv s₁ μ₁ σ₁ x q₁ X₁ S₁ r₁ => ?_)
      refine wpAny_bind (onE X₁ ((ha.2.1 _ _ hv1).1 env A μ₁ σ₁ s₁ ℓ E _ hs X₁ q₁) fun vv s₂ μ₂ σ₂ y q₂ X₂ S₂ r₂ => wpAny_bind (wpAny_standAt (wpAny_pure ?_)))
      refine evalPairs_nil ?_
      obtain ⟨⟨⟨hkk, _⟩, _⟩, q₃⟩ := q₂
      have S3 := S₁.trans S₂
      have hd : s₂.heap.get? s.heap.objs.size = some emptyDict := S3.keep _ _ (Heap.get?_push_size _ rfl) (fun j u e => by
        obtain ⟨ob, e', _⟩ := X.R.slot u
        rw [e, none_size] at e'; cases e') fun p => p
      have hu : ∀ j, Used σ₂ j → μ₂ j ≠ s.heap.objs.size := fun j u e => by
        by_cases hj : Used σ j
        · rw [S3.same j hj] at e
          obtain ⟨ob, e', _⟩ := X.R.slot hj
          rw [e, none_size] at e'; cases e'
        · have := S3.fresh j u hj
          rw [e] at this
          have h' : (s.heap.push emptyDict).get? s.heap.objs.size = some emptyDict := Heap.get?_push_size _ rfl
          rw [this] at h'; cases h'
      have hB : c.B.get? s.heap.objs.size = none := by
        cases e : c.B.get? s.heap.objs.size with
        | none => rfl
        | some o => have := X.R.keep _ _ e; rw [none_size] at this; cases this
      unfold storeAll
      rw [List.forIn_cons]
      refine wpAny_bind (wpAny_bind (dict_one X₂.H X₂.R ⟨_, _, hd, ⟨rfl, rfl, rfl⟩, rfl⟩ (r₁.step X₁.R S₂) r₂ hkk fun h' tk hD hsb => wpAny_pure ?_))
      show wpAny _ _ (forIn [] _ _) _ _ _
      rw [List.forIn_nil]
      refine wpAny_pure ?_
      have tk' : TKeep s₂.heap h' := TKeep.of_sameBut hsb hd (by simp [Frozen])
      have R₄ : Rel c.toCx μ₂ σ₂ { s₂ with heap := h', toks := tk } := X₂.R.other hu hB (SameBut.ext hsb) tk'
      have D₄ := hD tk'
      obtain ⟨ob, _, _, hob, _⟩ := DRel.obj D₄
      have S₄ : Step noP μ σ s.heap μ₂ σ₂ h' := (S1.trans S3).other none_size (SameBut.ext hsb)
      have new : ORel c.toCx (ext μ₂ σ₂.len s.heap.objs.size 0) (σ₂.len + 1) h' σ₂.len (.dict [(x, y)]) := by
        refine ⟨?_, by rw [ext_even]; exact hmod⟩
        rw [ext_even]
        exact DRel.mono (Nat.le_succ _) (fun i hi => ext_lt (by omega)) (TKeep.of_keeps fun ζ ζ e => e) (fun ζ e => e) D₄
      exact ⟨_, _, .obj σ₂.len, q₃, R₄.adopt (o := .dict [(x, y)]) rfl hu hB new, S₄.adopt rfl none_size, by rw [St.len_add]; omega, by rw [ext_even]⟩
    exact ⟨z, simT_of z fun ζ => rfl⟩
end
end Mine.Internal
end
section
open PySem PySem.W PySem.Calls PyProof.Rows
set_option maxRecDepth 100000
namespace Mine.Internal

/- an iterator over a source of ours -/
structure Src (c : Cy) (A : Around) (μ : Nat → Addr) (σ : St) (h : Heap) (v : V) (l : List V) (I : Addr) (fp : List Addr) (P : Nat → Value → Prop) (St' : Nat → Heap → Prop) : Prop where
  W : Walks c.prog c.w A I fp [I] l.length P St'
  it : ∀ i h, St' i h → ∃ o, h.get? I = some o ∧ ¬ Frozen o
  fp : ∀ b ∈ fp, b = I ∨ (∃ o, h.get? b = some o ∧ Frozen o) ∨ ∃ i, v = .obj i ∧ i < σ.len ∧ μ (2 * i) = b ∧ σ.get i ≠ some .exd
  item : ∀ i v', i < l.length → P i v' → ∃ x, l[i]? = some x ∧ VRel μ σ.len h x v'

noncomputable def Opened (c : Cy) (A : Around) (μ : Nat → Addr) (σ : St) (s : Shared) (v : V) (l : List V) (it : Value) (s₁ : Shared) : Prop :=
  ∃ I fp P St' o, it = .ref I ∧ s₁ = { s with heap := s.heap.push o } ∧ I = s.heap.objs.size ∧ St' 0 s₁.heap ∧ Src c A μ σ s.heap v l I fp P St'

section
variable {c : Cy} {μ μ' : Nat → Addr} {σ σ' : St} {s s' : Shared} {h h' : Heap} {P : Addr → Prop} {n n' : Nat} {env : Env} {A : Around} {ℓ : Loc} {E : Value → Shared → Prop} {D : Nat} {Γ : Env'} {sc : Scope} {e : Expr} {ie : IE}

theorem KvK.keys {K : Type} {enc : K → V} {es : List (V × V)} : ∀ {kvs : List (K × Value)}, KvK enc μ n h es kvs → ∀ {i : Nat} {k : K} {x : Value}, kvs[i]? = some (k, x) → (es.map (·.1))[i]? = some (enc k) := by
  induction es with
  | nil => intro kvs r i k x e; exact no_some (((show kvs = [] from r) ▸ e : ([] : List (K × Value))[i]? = some (k, x)))
  | cons e es ih =>
    obtain ⟨y, v⟩ := e
    intro kvs r i k x e
    revert e
    refine kvk_cons r fun a w q d r e => ?_
    cases i with
    | zero => exact congrArg (fun p => some (enc p.1)) (sinj e)
    | succ i => exact ih r (i := i) e
theorem two_mem {α : Type} {a b x : α} (h : x ∈ [a, b]) : x = a ∨ x = b := by simpa using h
theorem seq_item {l : List V} {vs : Array Value} (rr : VsRel μ n h l vs.toList) : ∀ i v', i < l.length → vs[i]? = some v' → ∃ x, l[i]? = some x ∧ VRel μ n h x v' := fun i v' hi hv => by
  obtain ⟨w, h1, h2⟩ := rr.get (List.getElem?_eq_getElem hi)
  rw [← Array.getElem?_toList, h1] at hv
  exact ⟨_, List.getElem?_eq_getElem hi, sinj hv ▸ h2⟩
theorem tup_open {a : Addr} {l : List V} {vs : Array Value} {k : Nat} (hh : A.handled = none) (g : s.heap.get? a = some (tobj vs k)) (rr : VsRel μ σ.len s.heap l vs.toList) : wpAny c.M A (pyIter (.ref a)) (Opened c A μ σ s (.tup l) l) E s := by
  have ht : s.heap.IsTuple a vs := ⟨_, g, rfl, k, rfl⟩
  refine wpAny_pyIter_tuple ht ⟨_, _, _, _, _, rfl, rfl, rfl, ⟨⟨_, Heap.get?_push_size _ rfl, rfl, rfl⟩, ht.push _⟩, seq_size rr ▸ Walks.tuple hh _ a (Nat.ne_of_lt (Heap.lt_size g)) vs, fun i h z => ?_, fun b hb => ?_, seq_item rr⟩
  · obtain ⟨⟨o, h1, h2, _⟩, _⟩ := z
    exact ⟨o, h1, nf_type h2 (by decide) (by decide)⟩
  · exact (two_mem hb).imp id fun e => .inl ⟨_, e ▸ g, .inl ⟨rfl, _, _, rfl⟩⟩
theorem rng_open {a b : Int} {r : Addr} {t u z : Tok} (hh : A.handled = none) (hr : IsRange s.heap r a b 1 t u z) (ha : a.natAbs < 2 ^ 60) (hb : b.natAbs < 2 ^ 60) : wpAny c.M A (pyIter (.ref r)) (Opened c A μ σ s (.rng a b) (rangeL a b)) E s := by
  have hl : (rangeL a b).length = (b - a).toNat := by simp [rangeL]
  refine wpAny_pyIter_range hr (rngSmall ha hb) ⟨_, _, _, _, _, rfl, rfl, rfl, ?_, hl ▸ Walks.range hh _ a 1 (b - a).toNat, fun i h hi => ⟨_, hi, nf_type rfl (by decide) (by decide)⟩, fun b hb => .inl (List.mem_singleton.mp hb), ?_⟩
  · have : IsRangeIter (s.heap.push { cls := .type "range_iterator", data := .fields #[rawInt a, rawInt (Builtin.Range.rangeSize a b 1), rawInt 1] }) s.heap.objs.size (a + ((0 : Nat) : Int) * 1) (((b - a).toNat : Int) - ((0 : Nat) : Int)) 1 := by
      rw [← rngSize]
      simpa using Heap.get?_push_size _ rfl
    rw [hl]
    exact this
  · rintro i v' hi ⟨t, rfl⟩
    rw [hl] at hi
    exact ⟨.int (a + (i : Int)), by simp [rangeL, hi], t, by rw [Int.mul_one]⟩
theorem lst_open {j : Nat} {l : List V} (hh : A.handled = none) (R : Rel c.toCx μ σ s) (g : σ.get j = some (.list l)) : wpAny c.M A (pyIter (.ref (μ (2 * j)))) (Opened c A μ σ s (.obj j) l) E s := by
  obtain ⟨vs, k, g', rr⟩ := R.obj _ _ g
  have ht : s.heap.IsList (μ (2 * j)) vs := ⟨_, g', rfl, k, rfl⟩
  refine wpAny_pyIter_list ht ⟨_, _, _, _, _, rfl, rfl, rfl, ⟨⟨_, Heap.get?_push_size _ rfl, rfl, rfl⟩, ht.push _⟩, seq_size rr ▸ Walks.list hh _ (μ (2 * j)) (Nat.ne_of_lt (Heap.lt_size g')) vs, fun i h z => ?_, fun b hb => ?_, seq_item rr⟩
  · obtain ⟨⟨o, h1, h2, _⟩, _⟩ := z
    exact ⟨o, h1, nf_type h2 (by decide) (by decide)⟩
  · exact (two_mem hb).imp id fun e => .inr ⟨j, rfl, St.get_lt g, e.symm, fun q => nomatch g.symm.trans q⟩
theorem dct_open {j : Nat} {es : List (V × V)} (hh : A.handled = none) (R : Rel c.toCx μ σ s) (g : σ.get j = some (.dict es)) (hk : es.all (fun e => keyKind e.1 == 1) = true) : wpAny c.M A (pyIter (.ref (μ (2 * j)))) (Opened c A μ σ s (.obj j) (es.map (·.1))) E s := by
  obtain ⟨kvs, hd, rr⟩ := DRel.int (R.obj _ _ g).1 fun x hx => beqt (List.all_eq_true.mp hk x hx)
  obtain ⟨ep, hat⟩ := hd.dictAt
  have hne : μ (2 * j) ≠ s.heap.objs.size := let ⟨_, _, _, ho, _⟩ := hd; Nat.ne_of_lt (Heap.lt_size ho)
  have hl : kvs.length = (es.map (·.1)).length := by rw [rr.len, List.length_map]
  refine wpAny_pyIter_dict (beq_eq_false_iff_ne.mpr (R.obj _ _ g).2) hat ⟨_, _, _, _, _, rfl, rfl, rfl, ⟨⟨_, Heap.get?_push_size _ rfl, rfl, by rw [hl]; rfl⟩, hat.keep fun ζ ζ e => Heap.get?_push_of_some _ e⟩,
    hl ▸ Walks.dictKeys hh _ (μ (2 * j)) hne kvs ep, fun i h z => ?_, fun b hb => ?_, ?_⟩
  · obtain ⟨⟨o, h1, h2, _⟩, _⟩ := z
    exact ⟨o, h1, nf_type h2 (by decide) (by decide)⟩
  · exact (two_mem hb).imp id fun e => .inr ⟨j, rfl, St.get_lt g, e.symm, fun q => nomatch g.symm.trans q⟩
  · rintro i v' hi ⟨k, x, h1, h2⟩
    obtain ⟨t, rfl⟩ := Value.isInt_shape h2
    exact ⟨.int k, rr.keys h1, t, rfl⟩
theorem src_open {v : V} {v' : Value} {l : List V} (hh : A.handled = none) (R : Rel c.toCx μ σ s) (r : VRel μ σ.len s.heap v v') (e : srcItems σ v = some l) : wpAny c.M A (pyIter v') (Opened c A μ σ s v l) E s := by
  cases v with
  | tup xs => exact sinj e ▸ tup_rel r fun a vs k g rr => tup_open hh g rr
  | rng a b => exact sinj e ▸ rng_rel r fun r t u z hr ha hb => rng_open hh hr ha hb
  | obj j =>
    refine obj_rel r ?_
    obtain ⟨o, g, e⟩ := Option.bind_eq_some_iff.mp (show (σ.get j).bind O.items = some l from e)
    cases o with
    | list l' => exact sinj e ▸ lst_open hh R g
    | dict es => exact ite_some e fun hk e => e ▸ dct_open hh R g hk
    | _ => exact no_some e
  | _ => exact no_some e

/- the addresses that are an activation's own -/
noncomputable def Own (env : Env) (b : Addr) : Prop := b = env.locals ∨ ∃ x, (x, b) ∈ env.cells

theorem ns_frozen {a : Addr} {m : Str → Option Value} (hn : h.Ns a m) : ∃ o, h.get? a = some o ∧ ¬ Frozen o := by
  obtain ⟨o, es, ep, ho, hd, _⟩ := hn
  exact ⟨o, ho, by simp [Frozen, hd]⟩
theorem cell_frozen {a : Addr} {u : Option Value} (hn : h.IsCell a u) : ∃ o, h.get? a = some o ∧ ¬ Frozen o := by
  obtain ⟨o, ho, hd⟩ := hn
  exact ⟨o, ho, by simp [Frozen, hd]⟩

section
variable {μ₁ : Nat → Addr} {σ₁ : St} {s₁ : Shared} {h₂ h₃ : Heap} {μ₃ : Nat → Addr} {σ₃ : St} {P' : Addr → Prop} {a : Addr}
theorem Rel.unt (R : Rel c.toCx μ₁ σ₁ s₁) (hn : s₁.heap.get? a = none) (ha : ∃ o, h₂.get? a = some o) (S : Step P μ₁ σ₁ h₂ μ σ h') (j : Nat) (u : Used σ j) : μ j ≠ a := fun e => by
  obtain ⟨o, ha⟩ := ha
  by_cases hj : Used σ₁ j
  · obtain ⟨ob, e', _⟩ := R.slot hj
    rw [← S.same j hj, e, hn] at e'
    exact no_some e'
  · exact no_some ((S.fresh j u hj).symm.trans (e ▸ ha))
theorem Rel.untF {ob : Obj} (R : Rel c.toCx μ₁ σ₁ s₁) (k : ∀ b o, s₁.heap.get? b = some o → h₂.get? b = some o) (g : s₁.heap.get? a = some ob) (f : Frozen ob) (S : Step P μ₁ σ₁ h₂ μ σ h') (j : Nat) (u : Used σ j) : μ j ≠ a := fun e => by
  by_cases hj : Used σ₁ j
  · obtain ⟨oo, e', nf⟩ := R.slot hj
    rw [← S.same j hj, e, g] at e'
    exact nf (sinj e' ▸ f)
  · exact no_some ((S.fresh j u hj).symm.trans (e ▸ k _ _ g))
theorem Rel.nB (R : Rel c.toCx μ σ s) (hn : s.heap.get? a = none) : c.B.get? a = none := by
  cases e : c.B.get? a with
  | none => rfl
  | some o => exact no_some (hn.symm.trans (R.keep _ _ e))
theorem Rel.item {x : V} {w : Value} (R : Rel c.toCx μ₁ σ₁ s₁) (k : ∀ b o, s₁.heap.get? b = some o → h₂.get? b = some o) (S : Step P μ₁ σ₁ h₂ μ σ h') (hP : ∀ b o, P b → s₁.heap.get? b = some o → ¬ Frozen o) (r : VRel μ₁ σ₁.len s₁.heap x w) : VRel μ σ.len h' x w :=
  VRel.mono S.len S.even (TKeep.mk fun a o e f => S.keep a o (k a o e) (fun j u z => by
    obtain ⟨ob, e', nf⟩ := R.slot u
    rw [z, e] at e'
    exact nf (sinj e' ▸ f)) fun p => hP a o p e f) r
theorem Step.stillO {ii : Nat} {o : Obj} (J : Step P μ₁ σ₁ h₂ μ σ h) (S : Step P' μ σ h' μ₃ σ₃ h₃) (hi : ii < σ₁.len) (eb : μ₁ (2 * ii) = a) (nx : σ₁.get ii ≠ some .exd) (a1 : σ₃.ver ii = σ₁.ver ii) (a2 : σ.ver ii = σ₁.ver ii) (e : (∀ j, Used σ j → μ j = a → h'.get? a = some o)) : h₃.get? a = some o := by
  have u1 : Used σ₁ (2 * ii) := used_even hi
  have u2 := J.mono _ u1
  have eb2 : μ (2 * ii) = a := (J.same _ u1).trans eb
  have h2 : 2 * ii / 2 = ii := Nat.mul_div_cancel_left _ (by decide)
  have := S.still (2 * ii) u2 (by rw [h2]; exact a1.trans a2.symm) (by rw [h2, J.obj ii hi a2]; exact nx) o (eb2 ▸ e _ u2 eb2)
  rw [eb2] at this
  exact this
theorem Own.thawed {o : Obj} (L : LRel env ℓ μ σ h) (p : Own env a) (e : h.get? a = some o) : ¬ Frozen o := fun f => by
  rcases p with rfl | ⟨y, hy⟩
  · obtain ⟨m, hm, _⟩ := L.ns
    obtain ⟨ob, e', nf⟩ := ns_frozen hm
    exact nf (sinj (e'.symm.trans e) ▸ f)
  · obtain ⟨u, hu⟩ := L.there y a hy
    obtain ⟨ob, e', nf⟩ := cell_frozen hu
    exact nf (sinj (e'.symm.trans e) ▸ f)
theorem Own.not (L : LRel env ℓ μ σ h) (hn : h.get? a = none) : ¬ Own env a := fun p => by
  rcases p with rfl | ⟨y, hy⟩
  · obtain ⟨m, ⟨o, _, _, ho, _⟩, _⟩ := L.ns
    exact no_some (hn.symm.trans ho)
  · obtain ⟨u, o, ho, _⟩ := L.there y a hy
    exact no_some (hn.symm.trans ho)
end
theorem at_rest {α : Type} {l done r : List α} {it : α} (hd : l = done ++ it :: r) : l.length - (it :: r).length < l.length ∧ l[l.length - (it :: r).length]? = some it ∧ l.length - r.length = l.length - (it :: r).length + 1 := by
  subst hd
  rw [List.length_append, Nat.add_sub_cancel]
  refine ⟨Nat.lt_add_of_pos_right (Nat.succ_pos _), by rw [List.getElem?_append_right (Nat.le_refl _), Nat.sub_self]; rfl, ?_⟩
  rw [List.length_cons, ← Nat.add_assoc, Nat.add_right_comm, Nat.add_sub_cancel]
/- a name of the activation's own is bound -/
theorem store_op {x : Str} {i : Nat} {k : NameKind} {v : V} {v' : Value} {K : Unit → Shared → Prop} (O : EnvOk c env) (R : Rel c.toCx μ σ s) (L : LRel env ℓ μ σ s.heap) (hi : idxOf x env.scope.names 0 = some (i, k)) (hk : k = .local ∨ k = .cell) (r : VRel μ σ.len s.heap v v')
    (q : ∀ h' tk a, Own env a → (k = .local → a = env.locals) → (∃ o, s.heap.get? a = some o) → (∃ o, h'.get? a = some o) → TKeep s.heap h' → Heap.SameBut a s.heap h' → Rel c.toCx μ σ { s with heap := h', toks := tk } → LRel env (ℓ.set i v) μ σ h' → K () { s with heap := h', toks := tk }) :
    wpAny c.M A (storeName env x v') K E s := by
  obtain ⟨g, kd⟩ := O.kindOf hi
  obtain ⟨m, hm, hv⟩ := L.ns
  have other : ∀ {j : Nat} {y : Str} {k' : NameKind}, env.scope.names[j]? = some (y, k') → j ≠ i → y ≠ x := fun {j y k'} e hj q => by
    subst q
    have h1 := (List.getElem?_inj (i := j) (j := i) (by have := (List.getElem?_eq_some_iff.mp e).1; simpa using this) O.nodup).mp (by rw [List.getElem?_map, List.getElem?_map, e, g]; rfl)
    exact hj h1
  rcases hk with rfl | rfl
  · refine wpAny_storeName_local kd hm (fun h' hn hs => ?_) (by rw [O.kind]; rfl)
    obtain ⟨o, ho, hf⟩ := ns_frozen hm
    have tk : TKeep s.heap h' := TKeep.of_sameBut hs ho hf
    refine q h' _ env.locals (.inl rfl) (fun ζ => rfl) ⟨o, ho⟩ (let ⟨o, h, _⟩ := ns_frozen hn; ⟨o, h⟩) tk hs (R.other L.offL O.hiL (SameBut.ext hs) tk) ⟨⟨_, hn, ?_⟩, ?_, L.offL, L.offC, ?_⟩
    · intro j y w e hw
      by_cases hj : j = i
      · subst hj
        rw [g] at e; cases e
        simp only [Loc.set, if_true] at hw
        cases hw
        exact ⟨v', by simp, r.mono (Nat.le_refl _) (fun ζ ζ => rfl) tk⟩
      · simp only [Loc.set, if_neg hj] at hw
        obtain ⟨w', h1, h2⟩ := hv j y w e hw
        exact ⟨w', by simp [other e hj, h1], h2.mono (Nat.le_refl _) (fun ζ ζ => rfl) tk⟩
    · intro j y k' e hk'
      obtain ⟨a, u, h1, h2, h3⟩ := L.cell j y k' e hk'
      refine ⟨a, u, h1, h2.sameBut hs (O.offL y a (mem_of_lookup h1)), fun w hw => ?_⟩
      have hj : j ≠ i := fun q => by subst q; rw [g] at e; cases e; rcases hk' with h | h <;> cases h
      simp only [Loc.set, if_neg hj] at hw
      obtain ⟨w', q1, q2⟩ := h3 w hw
      exact ⟨w', q1, q2.mono (Nat.le_refl _) (fun ζ ζ => rfl) tk⟩
    · intro y a ha
      obtain ⟨u, hu⟩ := L.there y a ha
      exact ⟨u, hu.sameBut hs (O.offL y a ha)⟩
  · obtain ⟨a, u, h1, h2, h3⟩ := L.cell i x _ g (.inl rfl)
    have ha := mem_of_lookup h1
    refine wpAny_storeName_cell O.kind kd h1 h2 fun h' hn hs => ?_
    obtain ⟨o, ho, hf⟩ := cell_frozen h2
    have tk : TKeep s.heap h' := TKeep.of_sameBut hs ho hf
    refine q h' _ a (.inr ⟨x, ha⟩) (fun e => by cases e) ⟨o, ho⟩ (let ⟨o, h, _⟩ := cell_frozen hn; ⟨o, h⟩) tk hs (R.other (L.offC x a ha) (O.hiC x a ha) (SameBut.ext hs) tk) ⟨⟨m, hm.sameBut hs (Ne.symm (O.offL x a ha)), ?_⟩, ?_, L.offL, L.offC, ?_⟩
    · intro j y w e hw
      have hj : j ≠ i := fun q => by subst q; rw [g] at e; cases e
      simp only [Loc.set, if_neg hj] at hw
      obtain ⟨w', h1, h2⟩ := hv j y w e hw
      exact ⟨w', h1, h2.mono (Nat.le_refl _) (fun ζ ζ => rfl) tk⟩
    · intro j y k' e hk'
      by_cases hj : j = i
      · subst hj
        rw [g] at e; cases e
        refine ⟨a, _, h1, hn, fun w hw => ?_⟩
        simp only [Loc.set, if_true] at hw
        cases hw
        exact ⟨v', rfl, r.mono (Nat.le_refl _) (fun ζ ζ => rfl) tk⟩
      · obtain ⟨b, u', q1, q2, q3⟩ := L.cell j y k' e hk'
        have hne : b ≠ a := fun z => by
          subst z
          exact other e hj (name_of_addr O.apart (mem_of_lookup q1) ha)
        refine ⟨b, u', q1, q2.sameBut hs hne, fun w hw => ?_⟩
        simp only [Loc.set, if_neg hj] at hw
        obtain ⟨w', z1, z2⟩ := q3 w hw
        exact ⟨w', z1, z2.mono (Nat.le_refl _) (fun ζ ζ => rfl) tk⟩
    · intro y b hb
      by_cases hq : b = a
      · subst hq; exact ⟨_, hn⟩
      · obtain ⟨u', hu⟩ := L.there y b hb
        exact ⟨u', hu.sameBut hs hq⟩
end
end Mine.Internal
end
section
open PySem PySem.W PySem.Calls PyProof.Rows
set_option maxRecDepth 100000
namespace Mine.Internal

section
variable {c : Cy} {μ μ' : Nat → Addr} {σ σ' : St} {s s' : Shared} {h h' : Heap} {P : Addr → Prop} {n n' : Nat} {env : Env} {A : Around} {ℓ : Loc} {E : Value → Shared → Prop} {D : Nat} {Γ : Env'} {sc : Scope} {e : Expr} {ie : IE}

/- an address that is none of the activation's turns -/
theorem LRel.other {a : Addr} (L : LRel env ℓ μ σ h) (h1 : a ≠ env.locals) (h2 : ∀ x, (x, a) ∉ env.cells) (hs : ∀ b o, b ≠ a → h.get? b = some o → h'.get? b = some o) (tk : TKeep h h') : LRel env ℓ μ σ h' := by
  obtain ⟨m, hm, hv⟩ := L.ns
  refine ⟨⟨m, ?_, fun i x v e g => ?_⟩, fun i x k e hk => ?_, L.offL, L.offC, fun x b hb => ?_⟩
  · obtain ⟨o, es, ep, ho, r⟩ := hm; exact ⟨o, es, ep, hs _ _ (Ne.symm h1) ho, r⟩
  · obtain ⟨v', q1, q2⟩ := hv i x v e g; exact ⟨v', q1, q2.mono (Nat.le_refl _) (fun ζ ζ => rfl) tk⟩
  · obtain ⟨b, u, q1, ⟨o, ho, hd⟩, q3⟩ := L.cell i x k e hk
    refine ⟨b, u, q1, ⟨o, hs _ _ (fun z => h2 x (z ▸ mem_of_lookup q1)) ho, hd⟩, fun v g => ?_⟩
    obtain ⟨v', z1, z2⟩ := q3 v g
    exact ⟨v', z1, z2.mono (Nat.le_refl _) (fun ζ ζ => rfl) tk⟩
  · obtain ⟨u, o, ho, hd⟩ := L.there x b hb
    exact ⟨u, o, hs _ _ (fun z => h2 x (z ▸ hb)) ho, hd⟩

/- the cells a comprehension's body sees -/
noncomputable def closeL (cells : List (Str × Addr)) : List (Str × NameKind) → List (Str × Addr) → List (Str × Addr)
  | [], acc => acc
  | (y, k) :: r, acc => if k == .free then closeL cells r ((y, (cells.lookup y).getD 0) :: acc) else closeL cells r acc

theorem closure_eq {env : Env} {cs : Scope} (hf : ∀ y, (y, NameKind.free) ∈ cs.names → ∃ a, env.cells.lookup y = some a) : closureFor cs env = pure (closeL env.cells cs.names []) := by
  unfold closureFor
  have key : ∀ (names : List (Str × NameKind)) (acc : List (Str × Addr)), (∀ y, (y, NameKind.free) ∈ names → ∃ a, env.cells.lookup y = some a) →
      (forIn names acc fun (x : Str × NameKind) (r : List (Str × Addr)) => if (x.2 == NameKind.free) = true then (do let a ← cellOf env x.1; pure (ForInStep.yield ((x.1, a) :: r))) else pure (ForInStep.yield r) : Sem (List (Str × Addr))) = pure (closeL env.cells names acc) := by
    intro names
    induction names with
    | nil => intro acc _; rw [List.forIn_nil]; rfl
    | cons z r ih =>
      intro acc hz
      obtain ⟨y, k⟩ := z
      rw [List.forIn_cons]
      unfold closeL
      by_cases hk : (k == NameKind.free) = true
      · have e : k = .free := by simpa using hk
        subst e
        obtain ⟨a, ha⟩ := hz y (.head _)
        have hc : cellOf env y = pure a := by unfold cellOf; rw [ha]
        simp only [beq_self_eq_true, if_true, hc, pure_bind, ha, Option.getD_some]
        exact ih _ fun w hw => hz w (.tail _ hw)
      · simp only [hk, if_false, pure_bind]
        exact ih _ fun w hw => hz w (.tail _ hw)
  have := key cs.names [] hf
  refine Eq.trans ?_ this
  simp

set_option tactic.hygienic true in
theorem closeL_mem {cells : List (Str × Addr)} : ∀ {names : List (Str × NameKind)} {acc : List (Str × Addr)} {y : Str} {a : Addr}, (y, a) ∈ closeL cells names acc → (y, a) ∈ acc ∨ ((y, NameKind.free) ∈ names ∧ a = (cells.lookup y).getD 0)
  | [], _, _, _, hm => .inl hm
  | (z, k) :: r, acc, y, a, hm => by
    unfold closeL at hm
    split at hm
    · rename_i hk
      have e : k = .free := by simpa using hk
      subst e
      rcases closeL_mem hm with h | ⟨h1, h2⟩
      · rcases List.mem_cons.mp h with h | h
        · cases h; exact .inr ⟨.head _, rfl⟩
        · exact .inl h
      · exact .inr ⟨.tail _ h1, h2⟩
    · rcases closeL_mem hm with h | ⟨h1, h2⟩
      · exact .inl h
      · exact .inr ⟨.tail _ h1, h2⟩
theorem lookup_of_mem {y : Str} {a : Addr} : ∀ {acc : List (Str × Addr)}, (y, a) ∈ acc → (acc.map (·.1)).Nodup → acc.lookup y = some a
  | [], h, _ => by cases h
  | z :: r, h, hn => by
    rw [List.map_cons, List.nodup_cons] at hn
    rcases List.mem_cons.mp h with rfl | h
    · simp [List.lookup_cons]
    · have : (y == z.1) = false := by
        cases q : y == z.1 with
        | false => rfl
        | true => exact absurd (by rw [← beq_iff_eq.mp q]; exact List.mem_map.mpr ⟨_, h, rfl⟩) hn.1
      rw [List.lookup_cons, this]
      exact lookup_of_mem h hn.2
set_option tactic.hygienic true in
theorem closeL_has {cells : List (Str × Addr)} : ∀ {names : List (Str × NameKind)} {acc : List (Str × Addr)} {y : Str} {a : Addr}, (names.map (·.1)).Nodup → ((y, a) ∈ acc ∧ y ∉ names.map (·.1) ∨ ((y, NameKind.free) ∈ names ∧ a = (cells.lookup y).getD 0)) →
    (∀ z ∈ acc.map (·.1), z ∉ names.map (·.1)) → (acc.map (·.1)).Nodup → (closeL cells names acc).lookup y = some a
  | [], acc, y, a, _, h, _, hn => by
    rcases h with ⟨h, _⟩ | ⟨h, _⟩
    · exact lookup_of_mem h hn
    · cases h
  | (z, k) :: r, acc, y, a, hnd, h, hdis, hn => by
    rw [List.map_cons, List.nodup_cons] at hnd
    unfold closeL
    have hz : z ∉ acc.map (·.1) := fun q => hdis z q (by simp)
    split
    · rename_i hk
      have e : k = .free := by simpa using hk
      subst e
      refine closeL_has hnd.2 ?_ ?_ ?_
      · rcases h with ⟨h1, h2⟩ | ⟨h1, h2⟩
        · exact .inl ⟨.tail _ h1, fun q => h2 (by simp [q])⟩
        · rcases List.mem_cons.mp h1 with h1 | h1
          · cases h1; exact .inl ⟨by rw [h2]; exact .head _, hnd.1⟩
          · exact .inr ⟨h1, h2⟩
      · intro w hw
        rw [List.map_cons] at hw
        rcases List.mem_cons.mp hw with rfl | hw
        · exact hnd.1
        · exact fun q => hdis w hw (by simp [q])
      · rw [List.map_cons, List.nodup_cons]; exact ⟨hz, hn⟩
    · rename_i hk
      refine closeL_has hnd.2 ?_ ?_ hn
      · rcases h with ⟨h1, h2⟩ | ⟨h1, h2⟩
        · exact .inl ⟨h1, fun q => h2 (by simp [q])⟩
        · rcases List.mem_cons.mp h1 with h1 | h1
          · cases h1; exact absurd rfl hk
          · exact .inr ⟨h1, h2⟩
      · intro w hw q; exact hdis w hw (by simp [q])
set_option tactic.hygienic true in
theorem closeL_apart {cells : List (Str × Addr)} (hap : cells.Pairwise fun x y => x.2 ≠ y.2) : ∀ {names : List (Str × NameKind)} {acc : List (Str × Addr)}, (names.map (·.1)).Nodup → (∀ y, (y, NameKind.free) ∈ names → ∃ a, cells.lookup y = some a) →
    (∀ y a, (y, a) ∈ acc → (y, a) ∈ cells ∧ y ∉ names.map (·.1)) → (acc.Pairwise fun x y => x.2 ≠ y.2) → ((closeL cells names acc).Pairwise fun x y => x.2 ≠ y.2)
  | [], acc, _, _, _, h => h
  | (z, k) :: r, acc, hnd, hf, hac, h => by
    rw [List.map_cons, List.nodup_cons] at hnd
    unfold closeL
    split
    · rename_i hk
      have e : k = .free := by simpa using hk
      subst e
      obtain ⟨a, ha⟩ := hf z (.head _)
      rw [ha]
      refine closeL_apart hap hnd.2 (fun y hy => hf y (.tail _ hy)) ?_ ?_
      · intro y b hb
        rcases List.mem_cons.mp hb with hb | hb
        · cases hb; exact ⟨mem_of_lookup ha, hnd.1⟩
        · exact ⟨(hac y b hb).1, fun q => (hac y b hb).2 (by simp [q])⟩
      · refine List.pairwise_cons.mpr ⟨fun y hy q => ?_, h⟩
        obtain ⟨y1, y2⟩ := y
        have q' : a = y2 := q
        subst q'
        have := name_of_addr hap (mem_of_lookup ha) (hac _ _ hy).1
        exact (hac _ _ hy).2 (by simp [this])
    · exact closeL_apart hap hnd.2 (fun y hy => hf y (.tail _ hy)) (fun y b hb => ⟨(hac y b hb).1, fun q => (hac y b hb).2 (by simp [q])⟩) h

theorem scope_ok {sc cs : Scope} (ho : scopeOk sc cs = true) : cs.kind = .function ∧ (cs.names.map (·.1)).Nodup ∧ (∀ x ∈ cs.names, x.2 ≠ .cell) ∧ ∀ y, (y, NameKind.free) ∈ cs.names → sc.names.lookup y = some .cell ∨ sc.names.lookup y = some .free := by
  simp only [scopeOk, Bool.and_eq_true, beq_iff_eq, decide_eq_true_eq, List.all_eq_true] at ho
  obtain ⟨⟨h1, h2⟩, h3⟩ := ho
  refine ⟨h1, h2, fun x hx e => ?_, fun y hy => ?_⟩
  · have := (h3 x hx).1
    simp [e] at this
  · have := (h3 _ hy).2
    simp only [bne_self_eq_false, Bool.false_or] at this
    split at this
    · exact .inl (by assumption)
    · exact .inr (by assumption)
    · cases this

theorem compLoop_ver {f : Loc → St → (V → St → Prop) → Prop} {g : Loc → St → (Bool → St → Prop) → Prop} {v : V} {k x : Nat} {r acc : List V} {Q : List V → St → Prop} (q : compLoop f g v k x ℓ r acc σ Q) : srcVer σ v = k := by
  cases r with
  | nil => exact q.1
  | cons a b => exact q.1
end
end Mine.Internal
end
section
open PySem PySem.W PySem.Calls PyProof.Rows
set_option maxRecDepth 100000
namespace Mine.Internal

theorem idxOf_of_lookup {x : Str} {k : NameKind} : ∀ {names : List (Str × NameKind)} {n : Nat}, names.lookup x = some k → ∃ i, idxOf x names n = some (i, k)
  | [], _, h => by cases h
  | (y, k') :: r, n, h => by
    unfold idxOf
    rw [List.lookup_cons] at h
    cases q : x == y with
    | true =>
      rw [q] at h
      cases h
      rw [if_pos (beq_iff_eq.mp q).symm]
      exact ⟨n, rfl⟩
    | false =>
      rw [q] at h
      rw [if_neg (fun e => by rw [e, beq_self_eq_true] at q; cases q)]
      exact idxOf_of_lookup h

set_option tactic.hygienic true in
theorem linkOf_get {sc : Scope} : ∀ {names : List (Str × NameKind)} {n i j : Nat}, lget i (linkOf sc names n) = some j → n ≤ i ∧ ∃ y k, names[i - n]? = some (y, .free) ∧ idxOf y sc.names 0 = some (j, k)
  | [], _, _, _, h => by cases h
  | (y, k) :: r, n, i, j, h => by
    have next : lget i (linkOf sc r (n + 1)) = some j → n ≤ i ∧ ∃ z k', ((y, k) :: r)[i - n]? = some (z, .free) ∧ idxOf z sc.names 0 = some (j, k') := fun h => by
      obtain ⟨h1, z, k', h2, h3⟩ := linkOf_get h
      refine ⟨by omega, z, k', ?_, h3⟩
      rw [show i - n = (i - (n + 1)) + 1 by omega]
      simpa using h2
    unfold linkOf at h
    split at h
    · rename_i hk
      have e : k = .free := by simpa using hk
      subst e
      split at h
      · rename_i hj
        unfold lget at h
        split at h
        · rename_i hn
          cases h
          subst hn
          exact ⟨Nat.le_refl _, y, _, by simp, hj⟩
        · exact next h
      · exact next h
    · exact next h

section
variable {c : Cy} {μ μ' : Nat → Addr} {σ σ' : St} {s s' : Shared} {h h' : Heap} {P : Addr → Prop} {n n' : Nat} {env : Env} {A : Around} {ℓ : Loc} {E : Value → Shared → Prop} {D : Nat} {Γ : Env'} {sc cs : Scope} {e : Expr} {ie : IE} {C : Addr}

theorem relabel_own : relabel cs env = ownScope env.scope cs := rfl

theorem own_names : ((ownScope sc cs).names.map (·.1)) = cs.names.map (·.1) := by
  show (cs.names.map _).map _ = _
  rw [List.map_map]
  refine List.map_congr_left fun x ζ => ?_
  obtain ⟨y, k⟩ := x
  show (if _ then (y, NameKind.cell) else (y, k)).1 = y
  split <;> rfl

set_option tactic.hygienic true in
theorem own_get {i : Nat} {y : Str} {k : NameKind} (hg : (ownScope sc cs).names[i]? = some (y, k)) : ∃ k', cs.names[i]? = some (y, k') ∧ (k' = k ∨ (k' = .free ∧ k = .cell)) := by
  have hg' : (cs.names.map fun (n, k) => if k == .free && sc.kind == .function && sc.names.lookup n == some .cell then (n, .cell) else (n, k))[i]? = some (y, k) := hg
  rw [List.getElem?_map] at hg'
  obtain ⟨⟨z, k'⟩, h1, h2⟩ := Option.map_eq_some_iff.mp hg'
  dsimp only at h2
  split at h2
  · rename_i hk
    cases h2
    simp only [Bool.and_eq_true, beq_iff_eq] at hk
    exact ⟨k', h1, .inr ⟨hk.1.1, rfl⟩⟩
  · cases h2
    exact ⟨_, h1, .inl rfl⟩

noncomputable abbrev cenvOf (cs : Scope) (env : Env) (C : Addr) : Env := compEnvC cs (closeL env.cells cs.names []) C env

theorem free_cell (hok : scopeOk env.scope cs = true) (L : LRel env ℓ μ σ h) {y : Str} (hy : (y, NameKind.free) ∈ cs.names) : ∃ a i k, env.cells.lookup y = some a ∧ idxOf y env.scope.names 0 = some (i, k) ∧ (k = .cell ∨ k = .free) := by
  obtain ⟨_, _, _, h4⟩ := scope_ok hok
  have key : ∀ k, (k = .cell ∨ k = .free) → env.scope.names.lookup y = some k → ∃ a i k, env.cells.lookup y = some a ∧ idxOf y env.scope.names 0 = some (i, k) ∧ (k = .cell ∨ k = .free) := fun k hk hl => by
    obtain ⟨i, hi⟩ := idxOf_of_lookup (n := 0) hl
    have g := (idxOf_get hi).2
    rw [Nat.sub_zero] at g
    obtain ⟨a, u, h1, _⟩ := L.cell i y k g hk
    exact ⟨a, i, k, h1, hi, hk⟩
  rcases h4 y hy with h | h
  · exact key _ (.inl rfl) h
  · exact key _ (.inr rfl) h

theorem comp_env (X : EnvOk c env) (hok : scopeOk env.scope cs = true) (L : LRel env ℓ μ σ h) (hC : c.B.get? C = none) (hne : ∀ x a, (x, a) ∈ env.cells → a ≠ C) : EnvOk c (cenvOf cs env C) := by
  obtain ⟨h1, h2, h3, h4⟩ := scope_ok hok
  have hf : ∀ y, (y, NameKind.free) ∈ cs.names → ∃ a, env.cells.lookup y = some a := fun y hy => let ⟨a, _, _, ha, _⟩ := free_cell hok L hy; ⟨a, ha⟩
  have hm : ∀ x a, (x, a) ∈ (cenvOf cs env C).cells → (x, a) ∈ env.cells := fun x a hx => by
    rcases closeL_mem hx with h | ⟨h, e⟩
    · cases h
    · obtain ⟨b, hb⟩ := hf x h
      rw [hb] at e
      rw [show a = b from e]
      exact mem_of_lookup hb
  refine ⟨h1, X.globals, X.builtins, ?_, ?_, ?_, hC, ?_⟩
  · show ((ownScope env.scope cs).names.map (·.1)).Nodup
    rw [own_names]; exact h2
  · exact closeL_apart X.apart h2 hf (fun ζ ζ h => by cases h) .nil
  · intro x a hx; exact hne x a (hm x a hx)
  · intro x a hx; exact X.hiC x a (hm x a hx)

theorem comp_cells (hok : scopeOk env.scope cs = true) (L : LRel env ℓ μ σ h) : ∀ x a, (x, a) ∈ (cenvOf cs env C).cells → (x, a) ∈ env.cells := fun x a hx => by
  rcases closeL_mem hx with h | ⟨h, e⟩
  · cases h
  · obtain ⟨b, _, _, hb, _⟩ := free_cell hok L h
    rw [hb] at e
    rw [show a = b from e]
    exact mem_of_lookup hb

set_option tactic.hygienic true in
theorem comp_rel (hok : scopeOk env.scope cs = true) (L : LRel env ℓ μ σ h) {m : Str → Option Value} (hm : h.Ns C m) (hu : ∀ j, Used σ j → μ j ≠ C) : LRel (cenvOf cs env C) (linked (linkOf env.scope cs.names 0) ℓ) μ σ h := by
  obtain ⟨h1, h2, h3, h4⟩ := scope_ok hok
  refine ⟨⟨m, hm, fun i x v e g => ?_⟩, fun i x k e hk => ?_, hu, fun x a hx => L.offC x a (comp_cells hok L x a hx), fun x a hx => L.there x a (comp_cells hok L x a hx)⟩
  · have e' : (ownScope env.scope cs).names[i]? = some (x, .local) := e
    obtain ⟨k', q1, q2⟩ := own_get e'
    have ek : k' = .local := by rcases q2 with rfl | ⟨_, q⟩; · rfl
                                · cases q
    subst ek
    unfold linked at g
    split at g
    · rename_i j hj
      obtain ⟨_, y, k, z1, _⟩ := linkOf_get hj
      rw [Nat.sub_zero, q1] at z1
      cases z1
    · cases g
  · have e' : (ownScope env.scope cs).names[i]? = some (x, k) := e
    obtain ⟨k', q1, q2⟩ := own_get e'
    have ek : k' = .free := by
      rcases q2 with rfl | ⟨q, _⟩
      · rcases hk with rfl | rfl
        · exact absurd rfl (h3 _ (List.mem_of_getElem? q1))
        · rfl
      · exact q
    subst ek
    have hx := List.mem_of_getElem? q1
    obtain ⟨a, j, kk, z1, z2, z3⟩ := free_cell hok L hx
    have g := (idxOf_get z2).2
    rw [Nat.sub_zero] at g
    obtain ⟨a', u, y1, y2, y3⟩ := L.cell j x kk g z3
    refine ⟨a', u, ?_, y2, fun v hv => ?_⟩
    · refine closeL_has h2 (.inr ⟨hx, by rw [y1]; rfl⟩) (fun z hz => by cases hz) List.nodup_nil
    · unfold linked at hv
      split at hv
      · rename_i j' hj
        obtain ⟨_, y, k2, w1, w2⟩ := linkOf_get hj
        rw [Nat.sub_zero, q1] at w1
        cases w1
        rw [z2] at w2
        cases w2
        exact y3 v hv
      · cases hv
end
end Mine.Internal
end
section
open PySem PySem.W PySem.Calls PyProof.Rows
set_option maxRecDepth 100000
namespace Mine.Internal

section
variable {c : Cy} {μ μ' : Nat → Addr} {σ σ' : St} {s s' : Shared} {h h' h₁ : Heap} {P : Addr → Prop} {n n' : Nat} {env : Env} {A : Around} {ℓ : Loc} {E : Value → Shared → Prop} {D : Nat} {Γ : Env'} {sc cs : Scope} {e : Expr} {ie : IE} {C : Addr}

theorem Step.at {a : Addr} (hP : P a) (hu : ∀ j, Used σ j → μ j ≠ a) (hs : ∀ b o, b ≠ a → h.get? b = some o → h'.get? b = some o) (hl : ∃ o, h'.get? a = some o) : Step P μ σ h μ σ h' :=
  ⟨fun b o e => by by_cases q : b = a; · rw [q]; exact hl
                   · exact ⟨o, hs b o q e⟩, Nat.le_refl _, fun ζ u => u, fun ζ ζ => rfl, fun ζ u n => absurd u n, fun b o e ζ n => hs b o (fun q => n (q ▸ hP)) e, fun ζ ζ => Nat.le_refl _, fun ζ ζ ζ => rfl, fun j u ζ ζ o e => hs _ o (hu j u) e⟩

theorem Step.drop (S : Step P μ σ h μ' σ' h') (k : ∀ b o, h₁.get? b = some o → h.get? b = some o) (hP : ∀ b, P b → h₁.get? b = none) : Step noP μ σ h₁ μ' σ' h' where
  live := fun b o e => S.live b o (k b o e)
  len := S.len
  mono := S.mono
  same := S.same
  fresh := fun j u nu => by
    have := S.fresh j u nu
    cases e : h₁.get? (μ' j) with
    | none => rfl
    | some o => rw [k _ _ e] at this; cases this
  keep := fun b o e t ζ => S.keep b o (k b o e) t fun p => by rw [hP b p] at e; cases e
  vers := S.vers
  obj := S.obj
  still := fun j u e x o g => S.still j u e x o (k _ o g)

theorem TKeep.of_ext {a : Addr} (hs : ∀ b o, b ≠ a → h.get? b = some o → h'.get? b = some o) (hf : ∃ o, h.get? a = some o ∧ ¬ Frozen o) : TKeep h h' :=
  ⟨fun b o e f => hs b o (fun q => by obtain ⟨ob, e', n⟩ := hf; rw [q, e'] at e; cases e; exact n f) e⟩

/- the tests of a comprehension -/
theorem tests_op {l : IEs} {ifs : List Expr} {env : Env} (ha : AllE c Γ D l) (hc : chkEs c.T l env.scope ifs = true) (X : Here c env A D μ σ s ℓ) {Q : Bool → St → Prop} (q : wC Γ l ℓ σ Q) :
    wpAny c.M A (forIn ifs true fun c r => if r = true then do let ok ← isTrue c env (eval c env); pure (ForInStep.yield ok) else pure (ForInStep.yield r)) (PostB c.toCx μ σ s.heap Q) E s := by
  match l, ha, hc, q with
  | .nil, _, hc, q =>
    rw [inv_nil hc]
    exact wpAny_tests_nil ⟨μ, σ, q, X.R, Step.refl ..⟩
  | .cons i .nil, ha, hc, q =>
    refine inv_cons hc fun e r e0 h1 h2 => ?_
    subst e0
    rw [inv_nil h2]
    exact wpAny_tests_one ((ha.1 _ _ h1).2 env A μ σ s ℓ E Q rfl X q)
  | .cons i (.cons j r), _, _, q => exact q.elim

/- the state of a comprehension's loop -/
structure CInv (c : Cy) (env : Env) (cs : Scope) (ℓ : Loc) (μ₁ : Nat → Addr) (σ₁ : St) (h₄ : Heap) (I Dd C : Addr) (l : List V) (St' : Nat → Heap → Prop) (r acc : List V) (μ : Nat → Addr) (σ : St) (s : Shared) : Prop where
  R : Rel c.toCx μ σ s
  S : Step (fun b => b = I ∨ b = Dd ∨ b = C) μ₁ σ₁ h₄ μ σ s.heap
  Lo : LRel env ℓ μ σ s.heap
  ns : ∃ m, s.heap.Ns C m
  acc : ∃ xs k, s.heap.get? Dd = some (lobj xs k) ∧ VsRel μ σ.len s.heap acc xs.toList ∧ xs.size ≤ l.length - r.length
  st : St' (l.length - r.length) s.heap

structure CEnd (c : Cy) (env : Env) (ℓ : Loc) (μ₁ : Nat → Addr) (σ₁ : St) (h₁ : Heap) (Dd C : Addr) (acc : List V) (μ : Nat → Addr) (σ : St) (s : Shared) : Prop where
  R : Rel c.toCx μ σ s
  S : Step noP μ₁ σ₁ h₁ μ σ s.heap
  Lo : LRel env ℓ μ σ s.heap
  ns : ∃ m, s.heap.Ns C m
  acc : ∃ xs k, s.heap.get? Dd = some (lobj xs k) ∧ VsRel μ σ.len s.heap acc xs.toList
  uD : ∀ j, Used σ j → μ j ≠ Dd
  uC : ∀ j, Used σ j → μ j ≠ C

theorem comp_loop (S0 : SetUp c Γ D) {v : V} {l : List V} {I Dd C : Addr} {fp : List Addr} {P' : Nat → Value → Prop} {St' : Nat → Heap → Prop} {s₁ : Shared} {h₄ : Heap} {μ₁ : Nat → Addr} {σ₁ : St} {elt src : Expr} {x : Str} {px p : Pos} {ifs : List Expr} {j : IE} {ls : IEs} {xi : Nat} {Q : List V → St → Prop} {RR : Result → Shared → Prop}
    (hok : scopeOk env.scope cs = true) (O : EnvOk c env) (H : Room A D) (R₁ : Rel c.toCx μ₁ σ₁ s₁) (L₁ : LRel env ℓ μ₁ σ₁ s₁.heap) (T : Src c A μ₁ σ₁ s₁.heap v l I fp P' St') (hb : l.length < big)
    (k14 : ∀ b o, s₁.heap.get? b = some o → h₄.get? b = some o) (nI : s₁.heap.get? I = none) (nD : s₁.heap.get? Dd = none) (nC : s₁.heap.get? C = none) (aI : ∃ o, h₄.get? I = some o) (aD : ∃ o, h₄.get? Dd = some o) (aC : ∃ o, h₄.get? C = some o)
    (ID : I ≠ Dd) (IC : I ≠ C) (DC : Dd ≠ C) (pj : PE c Γ D j) (pl : AllE c Γ D ls) (h1 : chkE c.T j (ownScope env.scope cs) elt = true) (h2 : chkEs c.T ls (ownScope env.scope cs) ifs = true) (h3 : idxOf x (ownScope env.scope cs).names 0 = some (xi, .local))
    (hR : ∀ s' μ' σ' acc, Q acc σ' → CEnd c env ℓ μ₁ σ₁ s₁.heap Dd C acc μ' σ' s' → RR (.ok .next) s') :
    ∀ (r acc : List V) (μ : Nat → Addr) (σ : St) (s : Shared), (∃ done, l = done ++ r) → CInv c env cs ℓ μ₁ σ₁ h₄ I Dd C l St' r acc μ σ s →
      compLoop (wE Γ j) (wC Γ ls) v (srcVer σ₁ v) xi (linked (linkOf env.scope cs.names 0) ℓ) r acc σ Q →
      codeAny c.M A (.compLoop (.ListComp elt [⟨.Name x px, src, ifs, 0⟩] cs p) 0 (.ref I) (.ref Dd) (cenvOf cs env C)) RR s := by
  have nL : ∀ {a : Addr}, s₁.heap.get? a = none → a ≠ env.locals := fun hn e => Own.not L₁ hn (.inl e)
  have nCs : ∀ {a : Addr}, s₁.heap.get? a = none → ∀ x, (x, a) ∉ env.cells := fun hn x hx => Own.not L₁ hn (.inr ⟨x, hx⟩)
  have Oc : EnvOk c (cenvOf cs env C) := comp_env O hok L₁ (R₁.nB nC) fun x a hx e => nCs nC x (e ▸ hx)
  intro r₀ acc₀ μ₀ σ₀ s₀ d₀ J₀ q₀
  refine codeAny_compLoop_tests (fun k s => ∃ r acc μ σ, k = r.length ∧ (∃ done, l = done ++ r) ∧ CInv c env cs ℓ μ₁ σ₁ h₄ I Dd C l St' r acc μ σ s ∧
      compLoop (wE Γ j) (wC Γ ls) v (srcVer σ₁ v) xi (linked (linkOf env.scope cs.names 0) ℓ) r acc σ Q) ?_ r₀.length ⟨r₀, acc₀, μ₀, σ₀, rfl, d₀, J₀, q₀⟩
  rintro k s ⟨r, acc, μ, σ, rfl, ⟨done, hd⟩, J, q⟩
  have uI := R₁.unt nI aI J.S
  have uD := R₁.unt nD aD J.S
  have uC := R₁.unt nC aC J.S
  obtain ⟨oI, gI, fI⟩ := T.it _ _ J.st
  cases r with
  | nil =>
    obtain ⟨qv, q⟩ := q
    refine T.W.done s _ _ (by have := J.st; rwa [List.length_nil, Nat.sub_zero] at this) fun h' tk hk => ?_
    have ext : ∀ b o, b ≠ I → s.heap.get? b = some o → h'.get? b = some o := fun b o n e => hk b o (by simpa using n) e
    have tk' : TKeep s.heap h' := TKeep.of_ext ext ⟨oI, gI, fI⟩
    obtain ⟨m, hm⟩ := J.ns
    obtain ⟨xs, k, ga, ra, _⟩ := J.acc
    refine hR _ μ σ acc q ⟨J.R.other uI (R₁.nB nI) ext tk', (J.S.drop k14 ?_).other nI ext, J.Lo.other (nL nI) (nCs nI) ext tk', ⟨m, ?_⟩, ⟨xs, k, ext _ _ (Ne.symm ID) ga, ra.mono (Nat.le_refl _) (fun ζ ζ => rfl) tk'⟩, uD, uC⟩
    · rintro b (rfl | rfl | rfl) <;> assumption
    · exact hm.at' fun o e => ext _ o (Ne.symm IC) e
  | cons it r =>
    obtain ⟨qv, q⟩ := q
    obtain ⟨hi, hgi, hr1⟩ := at_rest hd
    refine T.W.item _ s _ _ hi J.st fun w h1' tk1 hPw hst1 hk1 => ?_
    have ext1 : ∀ b o, b ≠ I → s.heap.get? b = some o → h1'.get? b = some o := fun b o n e => hk1 b o (by simpa using n) e
    have tk1' : TKeep s.heap h1' := TKeep.of_ext ext1 ⟨oI, gI, fI⟩
    obtain ⟨oI1, gI1, fI1⟩ := T.it _ _ hst1
    have R1 : Rel c.toCx μ σ { s with heap := h1', toks := tk1 } := J.R.other uI (R₁.nB nI) ext1 tk1'
    have S1 : Step (fun b => b = I ∨ b = Dd ∨ b = C) μ σ s.heap μ σ h1' := Step.at (.inl rfl) uI ext1 ⟨oI1, gI1⟩
    have Lo1 : LRel env ℓ μ σ h1' := J.Lo.other (nL nI) (nCs nI) ext1 tk1'
    obtain ⟨m, hm⟩ := J.ns
    have hm1 : h1'.Ns C m := hm.at' fun o e => ext1 _ o (Ne.symm IC) e
    obtain ⟨xs, k, ga, ra, za⟩ := J.acc
    have ga1 : h1'.get? Dd = some (lobj xs k) := ext1 _ _ (Ne.symm ID) ga
    obtain ⟨it', hit, rit⟩ := T.item _ _ hi hPw
    rw [hgi] at hit
    cases hit
    have rit1 := R₁.item k14 (J.S.trans S1) (fun b o p e => p.elim (fun q => no_some (nI.symm.trans (q ▸ e))) fun p => p.elim (fun q => no_some (nD.symm.trans (q ▸ e))) fun q => no_some (nC.symm.trans (q ▸ e))) rit
    have Lc1 : LRel (cenvOf cs env C) (linked (linkOf env.scope cs.names 0) ℓ) μ σ h1' := comp_rel hok Lo1 hm1 uC
    refine wpAny_assign_Name (store_op Oc R1 Lc1 h3 (.inl rfl) rit1 fun h2' tk2 a ζ ea ζ al2 tkp2 hs2 R2 Lc2 => ?_)
    obtain rfl : a = C := ea rfl
    have S2 : Step (fun b => b = I ∨ b = Dd ∨ b = a) μ σ h1' μ σ h2' := Step.at (.inr (.inr rfl)) uC (SameBut.ext hs2) al2
    have Lo2 : LRel env ℓ μ σ h2' := Lo1.other (nL nC) (nCs nC) (SameBut.ext hs2) tkp2
    have X2 : Here c (cenvOf cs env a) A D μ σ { s with heap := h2', toks := tk2 } ((linked (linkOf env.scope cs.names 0) ℓ).set xi it) := ⟨Oc, H, R2, Lc2⟩
    have ga2 : h2'.get? Dd = some (lobj xs k) := SameBut.ext hs2 _ _ DC ga1
    refine wpAny_mono (tests_op pl h2 X2 q) (fun b s3 z => ?_) fun ζ ζ z => z
    obtain ⟨μ3, σ3, q3, R3, S3⟩ := z
    have ga3 : s3.heap.get? Dd = some (lobj xs k) := S3.keep _ _ ga2 uD fun p => p
    have Lo3 : LRel env ℓ μ3 σ3 s3.heap := Lo2.step R2 S3
    have S13 := (S1.trans S2).trans (S3.weaken fun ζ p => p.elim)
    have uD3 := R₁.unt nD aD (J.S.trans S13)
    have st_of : ∀ {μ4 : Nat → Addr} {σ4 : St} {h4 : Heap}, Step noP μ σ h2' μ4 σ4 h4 → srcVer σ4 v = srcVer σ₁ v → St' (l.length - r.length) h4 := fun {μ4 σ4 h4} S4 hv => by
      rw [hr1]
      refine T.W.frame _ _ _ hst1 fun b hb o e => ?_
      rcases T.fp b hb with rfl | ⟨ob, g1, f1⟩ | ⟨i, rfl, hi', eb, nx⟩
      · refine S4.keep _ _ (SameBut.ext hs2 _ _ IC e) uI fun p => p
      · exact S4.keep _ _ (SameBut.ext hs2 _ _ (fun z => by rw [z, nC] at g1; cases g1) e) (R₁.untF k14 g1 f1 J.S) fun p => p
      · exact J.S.stillO S4 hi' eb nx hv qv fun j u z => SameBut.ext hs2 _ _ (fun q => uC j u (z.trans q)) e
    have hd' : ∃ done, l = done ++ r := ⟨done ++ [it], by rw [hd]; simp⟩
    cases b with
    | false =>
      simp only [ifB, if_false, Bool.false_eq_true] at q3 ⊢
      refine ⟨r.length, by simp, r, acc, μ3, σ3, rfl, hd', ⟨R3, J.S.trans S13, Lo3, ?_, ⟨xs, k, ga3, ?_, ?_⟩, st_of S3 (compLoop_ver q3)⟩, q3⟩
      · obtain ⟨m2, hm2⟩ := Lc2.ns
        exact ⟨m2, hm2.1.at' fun o e => S3.keep _ _ e uC fun p => p⟩
      · have t2 : TKeep s.heap h2' := ⟨fun a o e f => tkp2.keep _ _ (tk1'.keep _ _ e f) f⟩
        exact (ra.mono (Nat.le_refl _) (fun ζ ζ => rfl) t2).mono S3.len S3.even (S3.tkeep0 R2)
      · refine Nat.le_trans za ?_; simp only [List.length_cons]; omega
    | true =>
      simp only [ifB, if_true] at q3 ⊢
      have X3 : Here c (cenvOf cs env a) A D μ3 σ3 s3 ((linked (linkOf env.scope cs.names 0) ℓ).set xi it) := X2.step R3 S3
      refine wpAny_mono ((pj _ _ h1).1 _ A μ3 σ3 s3 _ _ _ rfl X3 q3) (fun y s4 z => ?_) fun ζ ζ z => z
      obtain ⟨μ4, σ4, yv, q4, R4, S4, r4⟩ := z
      have ga4 : s4.heap.get? Dd = some (lobj xs k) := S4.keep _ _ ga3 uD3 fun p => p
      have S14 := S13.trans (S4.weaken fun ζ p => p.elim)
      have uD4 := R₁.unt nD aD (J.S.trans S14)
      have uC4 := R₁.unt nC aC (J.S.trans S14)
      have b1 : big = 1000000 := rfl
      refine append_at ga4 (fun h5 hs5 g5 => ?_) (by have : sizeLine = 16777216 := rfl; omega)
      have tk5 : TKeep s4.heap h5 := TKeep.of_sameBut hs5 ga4 (by simp [Frozen])
      have S5 : Step (fun b => b = I ∨ b = Dd ∨ b = a) μ4 σ4 s4.heap μ4 σ4 h5 := Step.at (.inr (.inl rfl)) uD4 (SameBut.ext hs5) ⟨_, g5⟩
      have R5 : Rel c.toCx μ4 σ4 { s4 with heap := h5 } := R4.other uD4 (R₁.nB nD) (SameBut.ext hs5) tk5 (tk := s4.toks)
      refine ⟨r.length, by simp, r, acc ++ [yv], μ4, σ4, rfl, hd', ⟨R5, (J.S.trans S14).trans S5, (Lo3.step R3 S4).other (nL nD) (nCs nD) (SameBut.ext hs5) tk5, ?_, ⟨_, _, g5, ?_, ?_⟩, ?_⟩, q4⟩
      · obtain ⟨m2, hm2⟩ := Lc2.ns
        exact ⟨m2, (hm2.1.at' fun o e => (S3.trans S4).keep _ _ e uC fun p => p).sameBut hs5 (Ne.symm DC)⟩
      · rw [Array.toList_push]
        have t2 : TKeep s.heap h2' := ⟨fun a o e f => tkp2.keep _ _ (tk1'.keep _ _ e f) f⟩
        have ra3 := (ra.mono (Nat.le_refl _) (fun ζ ζ => rfl) t2).mono S3.len S3.even (S3.tkeep0 R2)
        exact ((ra3.step R3 S4).append (VsRel.one r4)).mono (Nat.le_refl _) (fun ζ ζ => rfl) tk5
      · rw [Array.size_push]
        simp only [List.length_cons] at za
        have : (it :: r).length ≤ l.length := by rw [hd, List.length_append]; exact Nat.le_add_left _ _
        simp only [List.length_cons] at this
        omega
      · have := st_of (S3.trans S4) (compLoop_ver q4)
        refine T.W.frame _ _ _ this fun b hb o e => SameBut.ext hs5 _ _ (fun z => ?_) e
        rcases T.fp b hb with rfl | ⟨ob, g1, _⟩ | ⟨i, rfl, hi', eb, _⟩
        · exact ID z
        · rw [z, nD] at g1; cases g1
        · have u1 : Used σ₁ (2 * i) := used_even hi'
          obtain ⟨oo, e', _⟩ := R₁.slot u1
          rw [eb, z, nD] at e'; cases e'
end
end Mine.Internal
end
section
open PySem PySem.W PySem.Calls PyProof.Rows
set_option maxRecDepth 100000
namespace Mine.Internal

/- a tree that gives a text, and turns nothing -/
noncomputable def Txt (M : Model) (t : Sem Value) (x : Str) : Prop := ∀ (A : Around) (E : Value → Shared → Prop) (Q : Value → Shared → Prop) (s : Shared), (∀ tk t, Q (.str x t) { s with toks := tk }) → wpAny M A t Q E s
noncomputable def TxtPairs (M : Model) : List (Sem Value × Sem Value) → List (Str × Str) → Prop
  | [], [] => True
  | (k, v) :: r, (x, y) :: q => Txt M k x ∧ Txt M v y ∧ TxtPairs M r q
  | _, _ => False
noncomputable def KvsOf : List (Str × Str) → List (Str × Value) → Prop
  | [], [] => True
  | (x, y) :: r, (k, w) :: q => k = x ∧ (∃ t, w = .str y t) ∧ KvsOf r q
  | _, _ => False
noncomputable def ValsOf : List (Str × Str) → List (Value × Value) → Prop
  | [], [] => True
  | (x, y) :: r, (k, w) :: q => (∃ t, k = .str x t) ∧ (∃ t, w = .str y t) ∧ ValsOf r q
  | _, _ => False

theorem KvsOf.keys : ∀ {ps : List (Str × Str)} {kvs : List (Str × Value)}, KvsOf ps kvs → kvs.map (·.1) = ps.map (·.1)
  | [], [], _ => rfl
  | (x, y) :: r, (k, w) :: q, h => by rw [List.map_cons, List.map_cons, KvsOf.keys h.2.2, h.1]
  | [], _ :: _, h => h.elim
  | _ :: _, [], h => h.elim
theorem KvsOf.len {ps : List (Str × Str)} {kvs : List (Str × Value)} (h : KvsOf ps kvs) : kvs.length = ps.length := by
  have := congrArg List.length h.keys
  simpa using this
theorem KvsOf.app : ∀ {ps qs : List (Str × Str)} {kvs lws : List (Str × Value)}, KvsOf ps kvs → KvsOf qs lws → KvsOf (ps ++ qs) (kvs ++ lws)
  | [], _, [], _, _, h => h
  | (_, _) :: _, _, (_, _) :: _, _, h, g => ⟨h.1, h.2.1, KvsOf.app h.2.2 g⟩
  | [], _, _ :: _, _, h, _ => h.elim
  | _ :: _, _, [], _, h, _ => h.elim
theorem TxtPairs.len {M : Model} : ∀ {ts : List (Sem Value × Sem Value)} {ps : List (Str × Str)}, TxtPairs M ts ps → ts.length = ps.length
  | [], [], _ => rfl
  | (_, _) :: _, (_, _) :: _, h => by rw [List.length_cons, List.length_cons, TxtPairs.len h.2.2]
  | [], _ :: _, h => h.elim
  | _ :: _, [], h => h.elim
theorem TxtPairs.app {M : Model} : ∀ {ts us : List (Sem Value × Sem Value)} {ps qs : List (Str × Str)}, TxtPairs M ts ps → TxtPairs M us qs → TxtPairs M (ts ++ us) (ps ++ qs)
  | [], _, [], _, _, h => h
  | (_, _) :: _, _, (_, _) :: _, _, h, g => ⟨h.1, h.2.1, TxtPairs.app h.2.2 g⟩
  | [], _, _ :: _, _, h, _ => h.elim
  | _ :: _, _, [], _, h, _ => h.elim

theorem stored_fresh {kvs : List (Str × Value)} {k : Str} {v : Value} (h : k ∉ kvs.map (·.1)) : stored kvs k v = kvs ++ [(k, v)] := by
  unfold stored
  rw [if_neg]
  rw [List.any_eq_true]
  rintro ⟨x, hx, he⟩
  exact h (List.mem_map.mpr ⟨x, hx, of_decide_eq_true he⟩)

section
variable {prog : Program} {w : World} {A : Around} {E : Value → Shared → Prop} {s : Shared} {d : Addr}

theorem ValsOf.carries : ∀ {ps : List (Str × Str)} {vs : List (Value × Value)}, ValsOf ps vs → ∃ kvs, Carries (strKind prog w) vs kvs ∧ KvsOf ps kvs
  | [], [], _ => ⟨[], trivial, trivial⟩
  | (x, y) :: r, (k, v) :: q, ⟨⟨t, hk⟩, hv, h⟩ => by
    obtain ⟨kvs, h1, h2⟩ := ValsOf.carries h
    exact ⟨(x, v) :: kvs, ⟨by rw [hk]; exact strKind_is _ _ _ _, rfl, h1⟩, rfl, hv, h2⟩
  | [], _ :: _, h => h.elim
  | _ :: _, [], h => h.elim

theorem pairs_const : ∀ {ts : List (Sem Value × Sem Value)} {ps : List (Str × Str)} {s : Shared} {Q : List (Value × Value) → Shared → Prop}, TxtPairs (model prog w) ts ps → (∀ vs tk, ValsOf ps vs → Q vs { s with toks := tk }) → wpAny (model prog w) A (evalPairs ts) Q E s
  | [], [], _, _, _, q => evalPairs_nil (q [] _ trivial)
  | (k, v) :: r, (x, y) :: ps, s, Q, ⟨h1, h2, h3⟩, q => evalPairs_cons (h1 _ _ _ _ fun tk t => h2 _ _ _ _ fun tk' t' => pairs_const h3 fun vs tk'' hv => q _ tk'' ⟨⟨t, rfl⟩, ⟨t', rfl⟩, hv⟩)
  | [], _ :: _, _, _, h, _ => h.elim
  | _ :: _, [], _, _, h, _ => h.elim

/- what a dict of texts holds -/
noncomputable def Holds (prog : Program) (w : World) (h : Heap) (d : Addr) (ps : List (Str × Str)) : Prop := ∃ kvs, h.DictOf (strKind prog w) d kvs ∧ KvsOf ps kvs

theorem long_const : ∀ {ts : List (Sem Value × Sem Value)} {ps acc : List (Str × Str)} {s : Shared} {Q : PUnit → Shared → Prop}, TxtPairs (model prog w) ts ps → ((acc ++ ps).map (·.1)).Nodup → acc.length + ps.length ≤ 1000 → Holds prog w s.heap d acc →
    (∀ h' tk, Holds prog w h' d (acc ++ ps) → Heap.SameBut d s.heap h' → Q PUnit.unit { s with heap := h', toks := tk }) →
    wpAny (model prog w) A (forIn ts PUnit.unit fun (x : Sem Value × Sem Value) (_ : PUnit) => (do let kv ← x.1; let vv ← holding [kv] x.2; holding [kv, vv] (dictSet d kv vv); pure (ForInStep.yield PUnit.unit) : Sem (ForInStep PUnit))) Q E s
  | [], [], acc, s, Q, _, _, _, hm, q => by
    rw [List.forIn_nil]
    exact wpAny_pure (q s.heap s.toks (by simpa using hm) (Heap.SameBut.refl _ _))
  | (k, v) :: r, (x, y) :: ps, acc, s, Q, ⟨h1, h2, h3⟩, hn, hl, ⟨kvs, hm, hk⟩, q => by
    rw [List.forIn_cons]
    rw [List.length_cons] at hl
    refine wpAny_bind (wpAny_bind (h1 _ _ _ _ fun tk t => wpAny_bind (wpAny_holding (h2 _ _ _ _ fun tk' t' => wpAny_bind (wpAny_holding (wpAny_dictSet_pairs (knd := strKind prog w) (strKind_is _ _ x t) hm (fun h₁ hm₁ hs₁ => ?_) (by have := hk.len; rw [sizeLine_eq]; omega)))))))
    refine wpAny_pure ?_
    show wpAny (model prog w) A (forIn r PUnit.unit _) Q E _
    have fresh : x ∉ kvs.map (·.1) := by
      rw [hk.keys]
      intro hx
      rw [List.map_append, List.nodup_append] at hn
      exact hn.2.2 x hx x (by simp) rfl
    rw [stored_fresh fresh] at hm₁
    refine long_const (acc := acc ++ [(x, y)]) h3 (by simpa using hn) (by rw [List.length_append, List.length_singleton]; omega) ⟨_, hm₁, hk.app ⟨rfl, ⟨t', rfl⟩, trivial⟩⟩ fun h' tk'' hh hs => ?_
    refine q h' tk'' (by simpa using hh) (hs₁.trans hs)
  | [], _ :: _, _, _, _, h, _, _, _, _ => h.elim
  | _ :: _, [], _, _, _, h, _, _, _, _ => h.elim

theorem sub_const {ts : List (Sem Value × Sem Value)} {ps : List (Str × Str)} {Q : Addr → Shared → Prop} (ht : TxtPairs (model prog w) ts ps) (hn : (ps.map (·.1)).Nodup) (hl : ps.length ≤ 1000)
    (q : ∀ h' D tk, (∀ b o, s.heap.get? b = some o → h'.get? b = some o) → D = s.heap.objs.size → Holds prog w h' D ps → Q D { s with heap := h', toks := tk }) : wpAny (model prog w) A (subDict ts) Q E s := by
  have k0 : ∀ b o, s.heap.get? b = some o → (s.heap.push emptyDict).get? b = some o := keep_push emptyDict
  have grow : ∀ h', Heap.SameBut s.heap.objs.size (s.heap.push emptyDict) h' → ∀ b o, s.heap.get? b = some o → h'.get? b = some o := fun h' hs b o e => (hs.2 b (Nat.ne_of_lt (Heap.lt_size e))).trans (k0 b o e)
  by_cases h15 : ts.length ≤ 15
  · refine wpAny_subDict (knd := strKind prog w) h15 (pairs_const ht fun vs tk hv => ?_)
    obtain ⟨kvs, h1, h2⟩ := ValsOf.carries (prog := prog) (w := w) hv
    refine ⟨kvs, h1, Heap.DictOf.new _, fun h' hd hs => q h' _ _ (grow h' hs) rfl ⟨kvs, ?_, h2⟩⟩
    rw [merged_nil_of_nodup _ (by rw [h2.keys]; exact hn)] at hd
    exact hd
  · unfold subDict
    refine wpAny_bind (wpAny_alloc (wpAny_bind (wpAny_holding ?_)))
    rw [if_neg h15]
    refine wpAny_bind (wpAny_rule ?_)
    refine wpAny_bind (long_const (acc := []) (s := { s with heap := s.heap.push emptyDict }) ht (by simpa using hn) (by simpa using hl) ⟨[], Heap.DictOf.new _, trivial⟩ fun h' tk hh hs => wpAny_pure (wpAny_pure (q h' _ tk (grow h' hs) rfl hh)))
end
end Mine.Internal
end
section
open PySem PySem.W PySem.Calls PyProof.Rows
set_option maxRecDepth 100000
namespace Mine.Internal

section
variable {prog : Program} {w : World} {A : Around} {E : Value → Shared → Prop} {s : Shared} {d a : Addr}

theorem put_fresh {kvs : List (Str × Value)} {k : Str} {key v : Value} {Q : Unit → Shared → Prop} (hkey : (strKind prog w).is k key = true) (hf : k ∉ kvs.map (·.1)) (hm : s.heap.DictOf (strKind prog w) d kvs) (hl : kvs.length ≤ sizeLine)
    (hQ : ∀ h', h'.DictOf (strKind prog w) d (kvs ++ [(k, v)]) → Heap.SameBut d s.heap h' → Q () { s with heap := h' }) : wpAny (model prog w) A (dictPut d ((strKind prog w).hash k) key v) Q E s := by
  obtain ⟨o, es, ep, ho, hc, hd, hk, hp, hn⟩ := hm
  have hes : es.size ≤ sizeLine := by
    have e1 := hp.length
    have e2 : es.toList.length = es.size := by simp
    omega
  unfold dictPut
  refine wpAny_bind (wpAny_dictFind_of hkey ho hd hk ?_)
  have hidx : (es.findIdx? fun e => (strKind prog w).is k e.key) = kvs.findIdx? fun kv => decide (kv.1 = k) := by
    rw [← hp.findIdx k]; obtain ⟨l⟩ := es; simp
  have hno : (kvs.findIdx? fun kv => decide (kv.1 = k)) = none := by
    rw [List.findIdx?_eq_none_iff]
    intro kv hkv
    rw [decide_eq_false_iff_not]
    exact fun e => hf (List.mem_map.mpr ⟨kv, hkv, e⟩)
  rw [hidx, hno]
  refine wpAny_updateDictKeys (hz := hes) ho hd (hQ _ ⟨_, _, ep + 1, Heap.get?_update_self _ ho (Obj.isFreed_of_dict (Obj.data_mapDictKeys hd _)), hc.mapDictKeys _, Obj.data_mapDictKeys hd _, hk.push hkey _, ?_, ?_⟩ (Heap.SameBut.update ..))
  · have := hp.append hkey ((strKind prog w).hash k) v
    obtain ⟨l⟩ := es
    simpa using this
  · rw [List.map_append, List.nodup_append]
    refine ⟨hn, by simp, ?_⟩
    intro x hx y hy
    simp only [List.map_cons, List.map_nil, List.mem_singleton] at hy
    subst hy
    exact fun e => hf (e ▸ hx)

theorem range_cons {x i n : Nat} {rest : List Nat} (hr : x :: rest = List.range' i (n - i)) : i < n ∧ x = i ∧ rest = List.range' (i + 1) (n - (i + 1)) := by
  rcases Nat.lt_or_ge i n with h | h
  · rw [show n - i = (n - (i + 1)) + 1 from (Nat.sub_add_cancel (Nat.sub_pos_of_lt h)).symm, List.range'_succ] at hr
    exact ⟨h, (List.cons.inj hr).1, (List.cons.inj hr).2⟩
  · rw [Nat.sub_eq_zero_of_le h] at hr
    exact nomatch hr
theorem range_nil {i n : Nat} (hr : [] = List.range' i (n - i)) (hi : i ≤ n) : i = n := by
  rcases Nat.lt_or_ge i n with h | h
  · rw [show n - i = (n - (i + 1)) + 1 from (Nat.sub_add_cancel (Nat.sub_pos_of_lt h)).symm, List.range'_succ] at hr
    exact nomatch hr
  · exact Nat.le_antisymm hi h
theorem take_at {α : Type} {more : List α} {x : Nat} {p : α} (hkv : more[x]? = some p) : more.take (x + 1) = more.take x ++ [p] := by rw [List.take_add_one, hkv]; rfl
theorem fresh_at {kvs more : List (Str × Value)} {x : Nat} {k : Str} {v : Value} (hn : ((kvs ++ more).map (·.1)).Nodup) (hkv : more[x]? = some (k, v)) : k ∉ (kvs ++ more.take x).map (·.1) := by
  have e3 : kvs ++ more = (kvs ++ more.take x) ++ more.drop x := by rw [List.append_assoc, List.take_append_drop]
  rw [e3, List.map_append, List.nodup_append] at hn
  have : (k, v) ∈ more.drop x := List.mem_of_getElem? (i := 0) (by rw [List.getElem?_drop]; exact hkv)
  exact fun hx => hn.2.2 k hx k (List.mem_map.mpr ⟨_, this, rfl⟩) rfl
theorem len_ok {kvs more : List (Str × Value)} {x : Nat} (h : kvs.length + more.length ≤ 1000) : (kvs ++ more.take x).length ≤ sizeLine := by
  rw [List.length_append, List.length_take, sizeLine_eq]; omega
theorem merge_const {ps qs : List (Str × Str)} {Q : Unit → Shared → Prop} (hda : d ≠ a) (hS : (a == sysModules) = false) (hd : Holds prog w s.heap d ps) (ha : Holds prog w s.heap a qs) (h0 : ps ≠ []) (hn : ((ps ++ qs).map (·.1)).Nodup) (hl : ps.length + qs.length ≤ 1000)
    (q : ∀ h', Holds prog w h' d (ps ++ qs) → Heap.SameBut d s.heap h' → Q () { s with heap := h' }) : wpAny (model prog w) A (mergeMapping d (.ref a) false) Q E s := by
  obtain ⟨kvs, hdd, hk⟩ := hd
  obtain ⟨more, hma, hk2⟩ := ha
  obtain ⟨od, esd, epd, hod, hcd, hddd, hkd, hpd, hnd⟩ := id hdd
  obtain ⟨oa, esa, epa, hoa, hca, hda', hka, hpa, hna⟩ := id hma
  have hne : esd.isEmpty = false := by
    have e1 := hpd.length
    have e2 := hk.len
    cases ps with
    | nil => exact absurd rfl h0
    | cons x r =>
      rw [Array.isEmpty_eq_false_iff]
      rintro rfl
      rw [e2] at e1; simp at e1
  have hlen : more.length = esa.size := by rw [← hpa.length]; simp
  unfold mergeMapping
  refine wpAny_bind (wpAny_isInstance hma.typeIs isSubtype_dict_dict (wpAny_ite_true rfl (wpAny_bind (wpAny_specialOf hma.typeIs F.slot_dict_iter.lookup (wpAny_bind (wpAny_pure ?_))))))
  refine wpAny_ite_false (by rw [hS]; rfl) (wpAny_bind (wpAny_dictEntries hod hddd (wpAny_ite_false (by rw [hne]; rfl) ?_)))
  refine wpAny_bind (wpAny_dictEntries hoa hda' (wpAny_bind (wpAny_dictEpoch hoa hda' (wpAny_bind ?_))))
  refine wpAny_forIn_list _ (fun rest ζ s' => ∃ h' i, s' = { s with heap := h' } ∧ rest = List.range' i (esa.size - i) ∧ i ≤ esa.size ∧ h'.DictOf (strKind prog w) d (kvs ++ more.take i) ∧ h'.get? a = some oa ∧ Heap.SameBut d s.heap h') _ ?_ ?_ _ _
    ⟨s.heap, 0, rfl, by simp [List.range_eq_range'], Nat.zero_le _, by simpa using hdd, hoa, Heap.SameBut.refl _ _⟩
  · rintro x rest b s' ⟨h', i, rfl, hr, hi, hd', hoa', hs'⟩
    obtain ⟨hlt, rfl, hrest⟩ := range_cons hr
    refine wpAny_bind (wpAny_dictEntries hoa' hda' ?_)
    rw [Array.getElem?_eq_getElem hlt]
    obtain ⟨kv, hkv⟩ : ∃ kv, more[x]? = some kv := ⟨more[x]'(by rw [hlen]; exact hlt), List.getElem?_eq_getElem _⟩
    obtain ⟨k, v⟩ := kv
    obtain ⟨hkey, hval⟩ := hpa.get? (e := esa[x]) (by simp [hlt]) hkv
    obtain ⟨k', hkey', hhash⟩ := hka esa[x] (Array.getElem_mem hlt)
    obtain rfl : k' = k := (strKind prog w).inj _ _ _ hkey' hkey
    dsimp only
    rw [hhash, hval]
    have hfr := fresh_at (show ((kvs ++ more).map (·.1)).Nodup by rw [List.map_append, hk.keys, hk2.keys, ← List.map_append]; exact hn) hkv
    refine wpAny_bind (wpAny_holding (wpAny_ite_false rfl ?_))
    refine put_fresh hkey hfr hd' (len_ok (by rw [hk.len, hk2.len]; exact hl)) fun h'' hd'' hs'' => ?_
    have hoa'' : h''.get? a = some oa := (hs''.2 a (Ne.symm hda)).trans hoa'
    refine wpAny_bind (wpAny_dictEpoch hoa'' hda' (wpAny_ite_false (by simp) ?_))
    exact wpAny_pure ⟨h'', x + 1, rfl, hrest, hlt, by rw [take_at hkv, ← List.append_assoc]; exact hd'', hoa'', hs'.trans hs''⟩
  · rintro b s' ⟨h', i, rfl, hr, hi, hd', hoa', hs'⟩
    have hin := range_nil hr hi
    refine wpAny_pure (q _ ⟨_, hd', ?_⟩ hs')
    rw [hin, ← hlen, List.take_length]
    exact hk.app hk2
end
end Mine.Internal
end
section
open PySem PySem.W PySem.Calls PyProof.Rows
set_option maxRecDepth 100000
namespace Mine.Internal

section
variable {prog : Program} {w : World} {A : Around} {E : Value → Shared → Prop} {s : Shared} {d a : Addr}

/- a run of pairs goes into the dict -/
noncomputable def flushC (run : List (Sem Value × Sem Value)) (main : Option Addr) : Sem (Option Addr) := do
  if run.isEmpty then return main
  match main with
  | none => return some (← subDict run)
  | some d =>
    let sub ← holding [.ref d] (subDict run)
    (holding [.ref d, .ref sub] (mergeMapping d (.ref sub) false)).onRaise fun x => do let _ ← holding [.ref d, x] (runValue (.builtin "proto.let_go" {}))
    return some d

/- what has been built so far -/
noncomputable def Main (prog : Program) (w : World) (h₀ h : Heap) (built : List (Str × Str)) : Option Addr → Prop
  | none => built = []
  | some d => Holds prog w h d built ∧ h₀.get? d = none ∧ built ≠ [] ∧ d ≠ sysModules

theorem holds_live {h : Heap} {ps : List (Str × Str)} (hh : Holds prog w h d ps) : ∃ o, h.get? d = some o := by
  obtain ⟨kvs, ⟨o, _, _, ho, _⟩, _⟩ := hh
  exact ⟨o, ho⟩
theorem holds_keep {h h' : Heap} {ps : List (Str × Str)} (hh : Holds prog w h d ps) (k : ∀ o, h.get? d = some o → h'.get? d = some o) : Holds prog w h' d ps := by
  obtain ⟨kvs, ⟨o, es, ep, ho, r⟩, z⟩ := hh
  exact ⟨kvs, ⟨o, es, ep, k _ ho, r⟩, z⟩

theorem flush_const {h₀ : Heap} {main : Option Addr} {run : List (Sem Value × Sem Value)} {pr built : List (Str × Str)} {Q : Option Addr → Shared → Prop} (hb : ∃ b o, sysModules ≤ b ∧ h₀.get? b = some o) (k₀ : ∀ b o, h₀.get? b = some o → s.heap.get? b = some o)
    (hr : TxtPairs (model prog w) run pr) (hn : ((built ++ pr).map (·.1)).Nodup) (hl : built.length + pr.length ≤ 1000) (hm : Main prog w h₀ s.heap built main)
    (q : ∀ h' main' tk, (∀ b o, h₀.get? b = some o → h'.get? b = some o) → Main prog w h₀ h' (built ++ pr) main' → Q main' { s with heap := h', toks := tk }) :
    wpAny (model prog w) A (flushC run main) Q E s := by
  unfold flushC
  cases run with
  | nil =>
    cases pr with
    | nil => exact wpAny_pure (q s.heap main s.toks k₀ (by simpa using hm))
    | cons _ _ => exact hr.elim
  | cons t ts =>
    rw [if_neg (show ¬ ((t :: ts).isEmpty = true) by simp)]
    have hpr : pr ≠ [] := by
      rintro rfl
      obtain ⟨t1, t2⟩ := t
      exact hr
    cases main with
    | none =>
      dsimp only
      have hbn : built = [] := hm
      subst hbn
      refine wpAny_bind (sub_const hr (by simpa using hn) (by simpa using hl) fun h' D tk k hD hh => wpAny_pure (q h' (some D) tk (fun b o e => k b o (k₀ b o e)) ⟨by simpa using hh, ?_, by simpa using hpr, ?_⟩))
      · cases e : h₀.get? D with
        | none => rfl
        | some o => have := k₀ _ _ e; rw [hD, none_size] at this; cases this
      · obtain ⟨b, o, hb1, hb2⟩ := hb
        have := Heap.lt_size (k₀ _ _ hb2)
        exact fun z => absurd (Nat.lt_of_le_of_lt hb1 this) (by rw [← hD, z]; exact Nat.lt_irrefl _)
    | some d =>
      obtain ⟨hd, nd, hb0, hds⟩ := hm
      dsimp only
      have hnp : (pr.map (·.1)).Nodup := by rw [List.map_append, List.nodup_append] at hn; exact hn.2.1
      refine wpAny_bind (wpAny_holding (sub_const hr hnp (by omega) fun h1 D tk k hD hh => ?_))
      obtain ⟨od, hod⟩ := holds_live hd
      have hdD : d ≠ D := fun z => by rw [z, hD, none_size] at hod; cases hod
      have hS : (D == sysModules) = false := by
        obtain ⟨b, o, hb1, hb2⟩ := hb
        have := Heap.lt_size (k₀ _ _ hb2)
        exact beq_eq_false_iff_ne.mpr fun z => absurd (Nat.lt_of_le_of_lt hb1 this) (by rw [← hD, z]; exact Nat.lt_irrefl _)
      refine wpAny_bind (wpAny_onRaise (wpAny_holding (merge_const hdD hS (holds_keep hd fun o e => k _ _ e) hh hb0 hn hl fun h2 hh2 hs2 => ?_)))
      refine wpAny_pure (q h2 (some d) tk (fun b o e => (hs2.2 b (fun z => by rw [z, nd] at e; cases e)).trans (k _ _ (k₀ b o e))) ⟨hh2, nd, ?_, hds⟩)
      intro z
      exact hb0 (List.append_eq_nil_iff.mp z).1
end
end Mine.Internal
end
section
open PySem PySem.W PySem.Calls PyProof.Rows
set_option maxRecDepth 100000
namespace Mine.Internal

section
variable {prog : Program} {w : World} {A : Around} {E : Value → Shared → Prop} {s : Shared} {d a : Addr}

inductive DInv (prog : Program) (w : World) (s : Shared) (ps : List (Str × Str)) (rest : List (Option (Sem Value) × Sem Value)) (r : Option Addr × List (Sem Value × Sem Value)) (s' : Shared) : Prop
  | mk (h' : Heap) (tk : Nat) (built pr : List (Str × Str)) (ts' : List (Sem Value × Sem Value)) (post : List (Str × Str)) (e : s' = { s with heap := h', toks := tk }) (k : ∀ b o, s.heap.get? b = some o → h'.get? b = some o) (hr : TxtPairs (model prog w) r.2 pr) (hlt : pr.length < 17)
      (er : rest = ts'.map fun p => (some p.1, p.2)) (hp : TxtPairs (model prog w) ts' post) (hps : ps = built ++ pr ++ post) (hm : Main prog w s.heap h' built r.1)
theorem app_mid {ps built pr post : List (Str × Str)} {x : Str × Str} (h : ps = built ++ pr ++ x :: post) : ps = built ++ (pr ++ [x]) ++ post := by rw [h]; simp
theorem nodup_left {ps a b : List (Str × Str)} (h : ps = a ++ b) (hn : (ps.map (·.1)).Nodup) : (a.map (·.1)).Nodup := by
  rw [h, List.map_append, List.nodup_append] at hn
  exact hn.1
theorem len_left {ps a b c : List (Str × Str)} (h : ps = a ++ b ++ c) (hl : ps.length ≤ 1000) : a.length + b.length ≤ 1000 := by
  rw [h, List.length_append, List.length_append] at hl
  exact Nat.le_trans (Nat.le_add_right _ _) hl
theorem display_const {ts : List (Sem Value × Sem Value)} {ps : List (Str × Str)} {Q : Value → Shared → Prop} (hb : ∃ b o, sysModules ≤ b ∧ s.heap.get? b = some o) (ht : TxtPairs (model prog w) ts ps) (h0 : ps ≠ []) (hn : (ps.map (·.1)).Nodup) (hl : ps.length ≤ 1000)
    (q : ∀ h' D tk, (∀ b o, s.heap.get? b = some o → h'.get? b = some o) → s.heap.get? D = none → D ≠ sysModules → Holds prog w h' D ps → Q (.ref D) { s with heap := h', toks := tk }) :
    wpAny (model prog w) A (dictDisplay (ts.map fun p => (some p.1, p.2))) Q E s := by
  unfold dictDisplay
  dsimp only
  refine wpAny_bind (wpAny_forIn_list _ (DInv prog w s ps) _ ?_ ?_ _ _ ⟨s.heap, s.toks, [], [], ts, ps, rfl, fun ζ ζ e => e, trivial, by decide, rfl, ht, rfl, rfl⟩)
  · rintro x rest ⟨main, run⟩ s' ⟨h', tk, built, pr, ts', post, rfl, k, hr, hlt, hrest, hp, hps, hm⟩
    cases ts' with
    | nil => cases hrest
    | cons t ts' =>
      obtain ⟨t1, t2⟩ := t
      cases post with
      | nil => exact hp.elim
      | cons p post =>
        obtain ⟨x1, y1⟩ := p
        obtain ⟨hp1, hp2, hp3⟩ := hp
        rw [List.map_cons, List.cons.injEq] at hrest
        obtain ⟨rfl, rfl⟩ := hrest
        dsimp only
        have hr' : TxtPairs (model prog w) (run ++ [(t1, t2)]) (pr ++ [(x1, y1)]) := hr.app ⟨hp1, hp2, trivial⟩
        have hps' := app_mid hps
        by_cases h17 : ((run ++ [(t1, t2)]).length == 17) = true
        · rw [if_pos h17]
          show wpAny _ _ (flushC (run ++ [(t1, t2)]) main >>= _) _ _ _
          refine wpAny_bind (flush_const (s := { s with heap := h', toks := tk }) hb k hr' (nodup_left hps' hn) (len_left hps' hl) hm fun h2 main' tk' k2 hm2 => wpAny_pure ?_)
          exact ⟨h2, tk', _, [], ts', post, rfl, k2, trivial, by decide, rfl, hp3, by rw [hps', List.append_nil], hm2⟩
        · rw [if_neg h17]
          refine wpAny_pure ⟨h', tk, built, _, ts', post, rfl, k, hr', ?_, rfl, hp3, hps', hm⟩
          rw [beq_iff_eq, hr'.len, List.length_append] at h17
          rw [List.length_append]
          exact Nat.lt_of_le_of_ne (Nat.succ_le_of_lt hlt) h17
  · rintro ⟨main, run⟩ s' ⟨h', tk, built, pr, ts', post, rfl, k, hr, hlt, hrest, hp, hps, hm⟩
    obtain rfl : ts' = [] := List.map_eq_nil_iff.mp hrest.symm
    obtain rfl : post = [] := by
      cases post with
      | nil => rfl
      | cons a b => exact hp.elim
    rw [List.append_nil] at hps
    dsimp only
    show wpAny _ _ (flushC run main >>= _) _ _ _
    refine wpAny_bind (flush_const (s := { s with heap := h', toks := tk }) hb k hr (by rw [← hps]; exact hn) (by rw [← List.length_append, ← hps]; exact hl) hm fun h2 main' tk' k2 hm2 => ?_)
    rw [← hps] at hm2
    cases main' with
    | none => exact absurd hm2 h0
    | some D => exact wpAny_pure (q h2 D tk' k2 hm2.2.1 hm2.2.2.2 hm2.1)
end

section
variable {c : Cy} {μ : Nat → Addr} {σ : St} {s : Shared} {env : Env} {A : Around} {ℓ : Loc} {E : Value → Shared → Prop} {D : Nat} {Γ : Env'}

theorem txt_const {M : Model} {x : Str} {k : Nat} {p : Pos} : Txt M (eval (.Constant (.str x) k p) env) x := fun A E Q s q => by
  show wpAny _ _ (constValue env (.str x)) _ _ _
  exact wpAny_mkText (q _ _)

theorem odite {c : Prop} [i : Decidable c] {α : Type} {f : c → Option α} {a : α} {C : Prop} (h : (if k : c then f k else none) = some a) (K : ∀ k : c, f k = some a → C) : C := by
  cases i with
  | isTrue k => exact K k h
  | isFalse k => exact no_some h
theorem cStr_eq {c : Const} {s : Str} (h : cStr c = some s) : c = .str s := by cases c <;> first | exact no_some h | exact congrArg Const.str (sinj h)
theorem litS_eq {e : Expr} {s : Str} (h : litS e = some s) : ∃ k p, e = .Constant (.str s) k p :=
  odite h fun k h => Expr.Constant.elim (motive_1 := fun e' => ∀ k : e'.ctorIdx = 19, e = e' → Expr.Constant.elim e' k (fun c ζ ζ => cStr c) = some s → ∃ k p, e = .Constant (.str s) k p) e k
    (fun c a b ζ e0 h => ⟨a, b, e0.trans (congrArg (fun c => Expr.Constant c a b) (cStr_eq h))⟩) k rfl h
theorem const_pairs {M : Model} {pos : Pos} {ks : List (Option Expr)} : ∀ {vs : List Expr} {l : List (Str × Str)}, constPairs ks vs = some l → TxtPairs M (pairTrees ks vs env pos) l ∧ ks.all (·.isSome) = true ∧ ks.length = vs.length ∧ l.length = ks.length := by
  induction ks with
  | nil =>
    intro vs l h
    refine ite_some h fun h1 h2 => ?_
    subst h2
    rw [emp h1]
    exact ⟨trivial, rfl, rfl, rfl⟩
  | cons a ks ih =>
    intro vs l h
    obtain ⟨a, e0, h⟩ := Option.bind_eq_some_iff.mp (show (a.bind fun a => (litS a).bind fun k => match vs with | [] => none | v :: vs => (litS v).bind fun s => (constPairs ks vs).map fun l => (k, s) :: l) = some l from h)
    obtain ⟨k, h1, h⟩ := Option.bind_eq_some_iff.mp h
    cases vs with
    | nil => exact no_some h
    | cons v vs =>
      obtain ⟨s, h2, h⟩ := Option.bind_eq_some_iff.mp (show ((litS v).bind fun s => (constPairs ks vs).map fun l => (k, s) :: l) = some l from h)
      obtain ⟨l', h3, rfl⟩ := Option.map_eq_some_iff.mp h
      obtain ⟨a1, a2, e1⟩ := litS_eq h1
      obtain ⟨b1, b2, e2⟩ := litS_eq h2
      subst e0 e1 e2
      obtain ⟨z1, z2, z3, z4⟩ := ih h3
      exact ⟨⟨txt_const, fun A E Q s q => wpAny_bind (txt_const A E _ s fun tk t => wpAny_bind (wpAny_standAt (wpAny_pure (q tk t)))), z1⟩, z2, congrArg (· + 1) z3, congrArg (· + 1) z4⟩

theorem kvk_of {μ : Nat → Addr} {n : Nat} {h : Heap} : ∀ {ps : List (Str × Str)} {kvs : List (Str × Value)}, KvsOf ps kvs → KvK V.str μ n h (ps.map fun p => (V.str p.1, V.str p.2)) kvs
  | [], [], _ => rfl
  | (x, y) :: r, (k, w) :: q, ⟨e, t, g⟩ => ⟨k, w, q, rfl, by rw [e], t, kvk_of g⟩
  | [], _ :: _, h => h.elim
  | _ :: _, [], h => h.elim

theorem case_cdict (S : SetUp c Γ D) {l : List (Str × Str)} : PE c Γ D (.cdict l) := by
  intro e sc hc
  refine inv_cdict hc fun ks vs p e0 h1 h2 h3 h4 => ?_
  subst e0
  have z : SimE c Γ D sc (.Dict ks vs p) (.cdict l) := fun env A μ σ s ℓ E Q hs X q => by
    obtain ⟨z1, z2, z3, z4⟩ := const_pairs (M := c.M) (env := env) (pos := p) h2
    rw [arm_eval_Dict, zip_pairTrees ks vs env p z2 z3]
    obtain ⟨og, _, _, hog, _⟩ := S.C.g.keeps X.R.keep
    refine wpAny_bind (wpAny_standAt (display_const ⟨mainGlobals, og, by decide, hog⟩ z1 (by rintro rfl; simp at z4; omega) h4 (by omega) fun h' Dd tk k nD hS hh => ?_))
    obtain ⟨kvs, hd, hk⟩ := hh
    have new : ORel c.toCx (ext μ σ.len Dd 0) (σ.len + 1) h' σ.len (.dict (l.map fun p => (V.str p.1, V.str p.2))) := ⟨by rw [ext_even]; exact .inr (.inl ⟨kvs, hd, kvk_of hk⟩), by rw [ext_even]; exact hS⟩
    obtain ⟨R', S'⟩ := X.R.add (o := .dict (l.map fun p => (V.str p.1, V.str p.2))) (a := Dd) (d := 0) k nD (fun e => by cases e) new (tk := tk)
    exact ⟨_, _, .obj σ.len, q, R', S', by rw [St.len_add]; omega, by rw [ext_even]⟩
  exact ⟨z, simT_of z fun ζ => rfl⟩
end
end Mine.Internal
end
section
open PySem PySem.W PySem.Calls PyProof.Rows
set_option maxRecDepth 100000
namespace Mine.Internal

section
variable {c : Cy} {μ μ' : Nat → Addr} {σ σ' : St} {s s' : Shared} {h h' h₁ : Heap} {P : Addr → Prop} {n n' : Nat} {env : Env} {A : Around} {ℓ : Loc} {E : Value → Shared → Prop} {D : Nat} {Γ : Env'} {sc cs : Scope} {e : Expr} {ie : IE} {C : Addr}

theorem folded_plain {T : CT} {i : IE} {env : Env} (hc : chkE T i sc e = true) (x : Value) : foldedSetIterable e env x = pure x := by
  cases e with
  | Set a b d => exact chk_good hc rfl
  | _ => rfl

theorem comp_run (S0 : SetUp c Γ D) {elt src : Expr} {x : Str} {px p pos : Pos} {ifs : List Expr} {i j : IE} {ls : IEs} {xi : Nat} {Q : List V → St → Prop} {K : Value → Shared → Prop} {use : Option (Value → Sem Unit)}
    (hok : scopeOk env.scope cs = true) (X : Here c env A D μ σ s ℓ) (pi : PE c Γ D i) (pj : PE c Γ D j) (pl : AllE c Γ D ls) (h0 : chkE c.T i env.scope src = true) (h1 : chkE c.T j (ownScope env.scope cs) elt = true)
    (h2 : chkEs c.T ls (ownScope env.scope cs) ifs = true) (h3 : idxOf x (ownScope env.scope cs).names 0 = some (xi, .local))
    (q : wE Γ i ℓ σ fun v σ => srcV σ v fun l => l.length < big ∧ compLoop (wE Γ j) (wC Γ ls) v (srcVer σ v) xi (linked (linkOf env.scope cs.names 0) ℓ) l [] σ Q)
    (hK : ∀ (s₁ : Shared) (μ₁ : Nat → Addr) (σ₁ : St) (Dd C : Addr) (s' : Shared) (μ' : Nat → Addr) (σ' : St) (acc : List V), Rel c.toCx μ₁ σ₁ s₁ → Step noP μ σ s.heap μ₁ σ₁ s₁.heap → s₁.heap.get? Dd = none → s₁.heap.get? C = none → Dd ≠ C → Q acc σ' →
      CEnd c env ℓ μ₁ σ₁ s₁.heap Dd C acc μ' σ' s' → compPost c.M A E use K (.ref Dd) C (.ok .next) s') :
    wpAny c.M A (comprehension (.ListComp elt [⟨.Name x px, src, ifs, 0⟩] cs p) cs env pos (newList []) false (eval src env) use) K E s := by
  obtain ⟨k1, k2, k3, k4⟩ := scope_ok hok
  refine wpAny_comprehension_free (cl := closeL env.cells cs.names []) rfl (folded_plain h0) (closure_eq fun y hy => let ⟨a, _, _, ha, _⟩ := free_cell hok X.L hy; ⟨a, ha⟩) k1 ?_ ?_
  · intro y hy hl
    obtain ⟨n, hn, en⟩ := List.getElem_of_mem hy
    exact hl ▸ lookup_of_get (i := n) k2 (by rw [List.getElem?_eq_getElem hn, en])
  refine onE X ((pi _ _ h0).1 env A μ σ s ℓ E _ rfl X q) fun v' s₁ μ₁ σ₁ v q₁ X₁ S₁ r₁ => ?_
  replace q₁ := srcV_out q₁
  cases hl : srcItems σ₁ v with
  | none => rw [hl] at q₁; exact q₁.elim
  | some l =>
    rw [hl] at q₁
    obtain ⟨hb, q₁⟩ := q₁
    refine wpAny_mono (src_open X₁.H.handled X₁.R r₁ hl) (fun it s₂ hit => ?_) fun ζ ζ z => z
    obtain ⟨I, fp, P', St', o, rfl, rfl, rfl, st0, T⟩ := hit
    obtain ⟨hp, g, d, t, os⟩ := s₁
    dsimp only at *
    refine wpAny_newObj_type (wpAny_newFunctionEnv k3 (by intro y hy; cases hy) (fun h₄ hns hsb => ?_) k1)
    dsimp only at hns hsb ⊢
    have e1 : (hp.push o).objs.size = hp.objs.size + 1 := Heap.size_push ..
    have e2 : ((hp.push o).push (lobj ([] : List Value).toArray 0)).objs.size = hp.objs.size + 2 := by rw [Heap.size_push, e1]
    have keep4 : ∀ b ob, b ≠ hp.objs.size + 2 → ((hp.push o).push (lobj ([] : List Value).toArray 0)).get? b = some ob → h₄.get? b = some ob := fun b ob n e => by
      have n' : b ≠ ((hp.push o).push (lobj ([] : List Value).toArray 0)).objs.size := by rw [e2]; exact n
      exact (hsb.2 b n').trans (Heap.get?_push_of_some _ e)
    have lt : ∀ {b ob}, hp.get? b = some ob → b < hp.objs.size := fun e => Heap.lt_size e
    have lt2 : ∀ {b : Nat}, b < hp.objs.size → b ≠ hp.objs.size + 2 := fun h => Nat.ne_of_lt (Nat.lt_of_lt_of_le h (Nat.le_add_right _ _))
    have z01 : hp.objs.size ≠ hp.objs.size + 1 := Nat.ne_of_lt (Nat.lt_succ_self _)
    have z02 : hp.objs.size ≠ hp.objs.size + 2 := Nat.ne_of_lt (Nat.lt_add_of_pos_right (by decide))
    have z12 : hp.objs.size + 1 ≠ hp.objs.size + 2 := Nat.ne_of_lt (Nat.lt_succ_self _)
    have k14 : ∀ b ob, hp.get? b = some ob → h₄.get? b = some ob := fun b ob e => keep4 b ob (lt2 (lt e)) (Heap.get?_push_of_some _ (Heap.get?_push_of_some _ e))
    have nI : hp.get? hp.objs.size = none := none_size
    have nD : hp.get? (hp.objs.size + 1) = none := Heap.get?_none_of_le (Nat.le_add_right _ _)
    have nC : hp.get? (hp.objs.size + 2) = none := Heap.get?_none_of_le (Nat.le_add_right _ _)
    obtain ⟨oI, gI0, _⟩ := T.it _ _ st0
    have gI : h₄.get? hp.objs.size = some oI := keep4 _ _ z02 (Heap.get?_push_of_some _ gI0)
    have gD : h₄.get? (hp.objs.size + 1) = some (lobj #[] 0) := keep4 _ _ z12 (by rw [← e1]; exact Heap.get?_push_size _ rfl)
    rw [e2] at hns hsb
    rw [e2, e1]
    obtain ⟨oC, _, _, gC, _⟩ := id hns
    have st4 : St' 0 h₄ := T.W.frame _ _ _ st0 fun b hb ob e => by
      rcases T.fp b hb with rfl | ⟨ob', g1, _⟩ | ⟨i, rfl, hi', eb, _⟩
      · exact keep4 _ _ z02 (Heap.get?_push_of_some _ e)
      · exact keep4 _ _ (lt2 (lt g1)) (Heap.get?_push_of_some _ e)
      · obtain ⟨oo, e', _⟩ := X₁.R.slot (used_even hi')
        rw [eb] at e'
        exact keep4 _ _ (lt2 (lt e')) (Heap.get?_push_of_some _ e)
    have R₄ : Rel c.toCx μ₁ σ₁ ⟨h₄, g, d, t + ([] : List (Str × Value)).length, os⟩ := X₁.R.grow k14
    have J : CInv c env cs ℓ μ₁ σ₁ h₄ hp.objs.size (hp.objs.size + 1) (hp.objs.size + 2) l St' l [] μ₁ σ₁ ⟨h₄, g, d, t + ([] : List (Str × Value)).length, os⟩ :=
      ⟨R₄, Step.refl .., X₁.L.step X₁.R (Step.grow k14), ⟨_, hns⟩, ⟨#[], 0, gD, rfl, Nat.zero_le _⟩, by rw [Nat.sub_self]; exact st4⟩
    have loop := comp_loop (RR := compPost c.M A E use K (.ref (hp.objs.size + 1)) (hp.objs.size + 2)) (Q := Q) (src := src) (px := px) (p := p) S0 hok X₁.O X₁.H X₁.R X₁.L T hb k14 nI nD nC ⟨_, gI⟩ ⟨_, gD⟩ ⟨_, gC⟩ z01 z02 z12 pj pl h1 h2 h3
      (fun s' μ' σ' acc qa z => hK ⟨hp, g, d, t, os⟩ μ₁ σ₁ _ _ s' μ' σ' acc X₁.R S₁ nD nC z12 qa z) l [] μ₁ σ₁ _ ⟨[], rfl⟩ J q₁
    exact codeAny_compStart_list loop (T.W.self 0 _ _ _ st4 loop)

theorem case_comp (S0 : SetUp c Γ D) {i j : IE} {ls : IEs} {xi : Nat} {lk : List (Nat × Nat)} (pj : PE c Γ D j) (pi : PE c Γ D i) (pl : AllE c Γ D ls) : PE c Γ D (.comp j xi i ls lk) := by
  intro e sc hc
  refine inv_comp hc fun elt x p1 src ifs cs p e0 hm hok h0 h1 h2 h3 => ?_
  subst e0 hm
  have z : SimE c Γ D sc (.ListComp elt [⟨.Name x p1, src, ifs, 0⟩] cs p) (.comp j xi i ls (linkOf sc cs.names 0)) := fun env A μ σ s ℓ E Q hs X q => by
    subst hs
    show wpAny _ _ (comprehension _ cs env _ (newList []) false (eval src env)) _ _ _
    refine comp_run S0 hok X pi pj pl h0 h1 h2 h3 q fun s₁ μ₁ σ₁ Dd C s' μ' σ' acc R₁ S₁ nD nC hne qa z => ?_
    obtain ⟨m, hm⟩ := z.ns
    refine ⟨m, hm, fun h' hs' => ?_⟩
    obtain ⟨xs, k, ga, ra⟩ := z.acc
    have nB : ∀ {a : Addr}, s₁.heap.get? a = none → c.B.get? a = none := fun {a} hn => by
      cases e : c.B.get? a with
      | none => rfl
      | some o => rw [R₁.keep _ _ e] at hn; cases hn
    have tk : TKeep s'.heap h' := TKeep.of_ext (SameBut.ext hs') (ns_frozen hm)
    have R₂ : Rel c.toCx μ' σ' { s' with heap := h' } := z.R.other z.uC (nB nC) (SameBut.ext hs') tk (tk := s'.toks)
    have S₂ : Step noP μ₁ σ₁ s₁.heap μ' σ' h' := z.S.other nC (SameBut.ext hs')
    have new : ORel c.toCx (ext μ' σ'.len Dd 0) (σ'.len + 1) h' σ'.len (.list acc) :=
      ⟨xs, k, by rw [ext_even]; exact SameBut.ext hs' _ _ hne ga, ra.mono (Nat.le_succ _) (fun i hi => ext_lt (by omega)) tk⟩
    have S₃ : Step noP μ₁ σ₁ s₁.heap (ext μ' σ'.len Dd 0) (σ'.add (.list acc)) h' := S₂.adopt rfl nD
    exact ⟨_, _, .obj σ'.len, qa, R₂.adopt (o := .list acc) rfl z.uD (nB nD) new, S₁.trans S₃, by rw [St.len_add]; omega, by rw [ext_even]⟩
  exact ⟨z, simT_of z fun ζ => rfl⟩

mutual
theorem allIE (S : SetUp c Γ D) (SO : SortOp c D Γ.srt) (XO : ExcOp c D) : ∀ ie : IE, PE c Γ D ie
  | .val v => case_val S v
  | .loc i => case_loc i
  | .neg a => case_neg (allIE S SO XO a)
  | .not a => case_not (allIE S SO XO a)
  | .bin _ a b => case_bin (allIE S SO XO a) (allIE S SO XO b)
  | .cmp _ a b => case_cmp S (allIE S SO XO a) (allIE S SO XO b)
  | .bop _ l => case_bop (allIEs S SO XO l)
  | .ite a b d => case_ite (allIE S SO XO a) (allIE S SO XO b) (allIE S SO XO d)
  | .tup l => case_tup (allIEs S SO XO l)
  | .list l => case_list (allIEs S SO XO l)
  | .dict l => case_dict S (allIEs S SO XO l)
  | .attr a _ => case_attr S (allIE S SO XO a)
  | .sub a b => case_sub S (allIE S SO XO a) (allIE S SO XO b)
  | .slice a b => case_slice (allIE S SO XO a) (allIE S SO XO b)
  | .call _ l => case_call S SO XO (allIEs S SO XO l)
  | .base k l => case_base S (allIEs S SO XO l)
  | .mcall a _ l => case_mcall S (allIE S SO XO a) (allIEs S SO XO l)
  | .cdict _ => case_cdict S
  | .comp j _ i ls _ => case_comp S (allIE S SO XO j) (allIE S SO XO i) (allIEs S SO XO ls)
theorem allIEs (S : SetUp c Γ D) (SO : SortOp c D Γ.srt) (XO : ExcOp c D) : ∀ l : IEs, AllE c Γ D l
  | .nil => trivial
  | .cons e l => ⟨allIE S SO XO e, allIEs S SO XO l⟩
end
end
end Mine.Internal
end
section
open PySem PySem.W PySem.Calls PyProof.Rows
set_option maxRecDepth 100000
namespace Mine.Internal

inductive PostS (c : Cx) (env : Env) (μ : Nat → Addr) (σ : St) (h : Heap) (Q : Fl → Loc → St → Prop) (fl : Flow) (s' : Shared) : Prop
  | mk (μ' : Nat → Addr) (σ' : St) (ℓ' : Loc) (R : Rel c μ' σ' s') (S : Step (Own env) μ σ h μ' σ' s'.heap) (L : LRel env ℓ' μ' σ' s'.heap) (q : (fl = .next ∧ Q .next ℓ' σ') ∨ ∃ v v', fl = .ret v' ∧ VRel μ' σ'.len s'.heap v v' ∧ Q (.ret v) ℓ' σ')
inductive PostSX (c : Cx) (env : Env) (μ : Nat → Addr) (σ : St) (h : Heap) (Q : Fl → Loc → St → Prop) (e : Value) (s' : Shared) : Prop
  | mk (μ' : Nat → Addr) (σ' : St) (ℓ' : Loc) (b : V) (x : Addr) (q : Q (.exc b) ℓ' σ') (R : Rel c μ' σ' s') (S : Step (Own env) μ σ h μ' σ' s'.heap) (L : LRel env ℓ' μ' σ' s'.heap) (e0 : e = .ref x) (X : ExcAt c μ' σ' s'.heap x b NoTb)

mutual
/- does it try? -/
noncomputable def tryS : IS → Bool
  | .try1 .. => true
  | .ite _ t e => trySs t || trySs e
  | .while _ b => trySs b
  | .for _ _ b => trySs b
  | _ => false
noncomputable def trySs : ISs → Bool
  | .nil => false
  | .cons s l => tryS s || trySs l
end

noncomputable def SimS (c : Cy) (Γ : Env') (D : Nat) (sc : Scope) (st : Stmt) (is : IS) : Prop :=
  ∀ (env : Env) (A : Around) (μ : Nat → Addr) (σ : St) (s : Shared) (ℓ : Loc) (E : Value → Shared → Prop) (Q : Fl → Loc → St → Prop), env.scope = sc → (tryS is = true → Solo A env) → Here c env A D μ σ s ℓ → wS Γ is ℓ σ Q →
    (∀ e s', PostSX c.toCx env μ σ s.heap Q e s' → E e s') → wpAny c.M A (exec st env) (PostS c.toCx env μ σ s.heap Q) E s
noncomputable def SimSs (c : Cy) (Γ : Env') (D : Nat) (sc : Scope) (sts : List Stmt) (is : ISs) : Prop :=
  ∀ (env : Env) (A : Around) (μ : Nat → Addr) (σ : St) (s : Shared) (ℓ : Loc) (E : Value → Shared → Prop) (Q : Fl → Loc → St → Prop), env.scope = sc → (trySs is = true → Solo A env) → Here c env A D μ σ s ℓ → wSs Γ is ℓ σ Q →
    (∀ e s', PostSX c.toCx env μ σ s.heap Q e s' → E e s') → wpAny c.M A (execs sts env) (PostS c.toCx env μ σ s.heap Q) E s
noncomputable def PS (c : Cy) (Γ : Env') (D : Nat) (is : IS) : Prop := ∀ (st : Stmt) (sc : Scope), chkS c.T is sc st = true → SimS c Γ D sc st is
noncomputable def PSs (c : Cy) (Γ : Env') (D : Nat) (is : ISs) : Prop := ∀ (sts : List Stmt) (sc : Scope), chkSs c.T is sc sts = true → SimSs c Γ D sc sts is

/- raise of an object of ours: told later -/
noncomputable def RaiseOp (c : Cy) (D : Nat) : Prop := ∀ {env : Env} {A : Around} {μ : Nat → Addr} {σ : St} {s : Shared} {ℓ : Loc} {x : Expr} {pos : Pos} {E : Value → Shared → Prop} {Q : Flow → Shared → Prop}, Here c env A D μ σ s ℓ →
  wpAny c.M A (eval x env) (fun v s₁ => ∃ μ₁ σ₁ i b, Here c env A D μ₁ σ₁ s₁ ℓ ∧ v = .ref (μ₁ (2 * i)) ∧ σ₁.get i = some (.exc b) ∧
    (∀ s', Rel c.toCx μ₁ (σ₁.put i .exd) s' → Step noP μ₁ σ₁ s₁.heap μ₁ (σ₁.put i .exd) s'.heap → ExcAt c.toCx μ₁ (σ₁.put i .exd) s'.heap (μ₁ (2 * i)) b NoTb → E (.ref (μ₁ (2 * i))) s')) E s →
  wpAny c.M A (exec (.Raise (some x) none pos) env) Q E s

section
variable {c : Cy} {μ μ' : Nat → Addr} {σ σ' : St} {s s' : Shared} {h h' h₁ : Heap} {P P' : Addr → Prop} {n n' : Nat} {env : Env} {A : Around} {ℓ ℓ' : Loc} {E : Value → Shared → Prop} {D : Nat} {Γ : Env'} {sc cs : Scope} {e : Expr} {ie : IE} {C : Addr}

theorem PostS.from_ {Q : Fl → Loc → St → Prop} {fl : Flow} (S : Step (Own env) μ σ h μ' σ' h') (p : PostS c.toCx env μ' σ' h' Q fl s') : PostS c.toCx env μ σ h Q fl s' :=
  let ⟨μ₂, σ₂, ℓ₂, R, S', L, r⟩ := p; ⟨μ₂, σ₂, ℓ₂, R, S.trans S', L, r⟩
theorem PostSX.from_ {Q : Fl → Loc → St → Prop} {e : Value} (S : Step (Own env) μ σ h μ' σ' h') (p : PostSX c.toCx env μ' σ' h' Q e s') : PostSX c.toCx env μ σ h Q e s' :=
  let ⟨μ₂, σ₂, ℓ₂, b, x, q, R, S', L, e0, X⟩ := p; ⟨μ₂, σ₂, ℓ₂, b, x, q, R, S.trans S', L, e0, X⟩
theorem PostSX.elim1 {Q : Fl → Loc → St → Prop} {e : Value} {P : Prop} (p : PostSX c.toCx env μ σ h Q e s') (no : ∀ b ℓ σ, Q (.exc b) ℓ σ → False) : P :=
  let ⟨_, _, _, _, _, q, _, _, _, _, _⟩ := p; (no _ _ _ q).elim
theorem Step.own (S : Step noP μ σ h μ' σ' h') : Step P μ σ h μ' σ' h' := S.weaken fun ζ p => p.elim
theorem PostS.next {Q : Fl → Loc → St → Prop} (X : Here c env A D μ' σ' s' ℓ') (S : Step (Own env) μ σ h μ' σ' s'.heap) (q : Q .next ℓ' σ') : PostS c.toCx env μ σ h Q .next s' := ⟨μ', σ', ℓ', X.R, S, X.L, .inl ⟨rfl, q⟩⟩

theorem own_un (L : LRel env ℓ μ σ h) {a : Addr} (ho : Own env a) : ∀ j, Used σ j → μ j ≠ a := by
  rcases ho with rfl | ⟨x, hx⟩
  · exact L.offL
  · exact L.offC x a hx

theorem no_swap {v : Expr} {t : Option Expr} {l : Nat} (hn : noComp v = true) : swapsWith v t l env = pure false := by
  cases v <;> first | rfl | exact no_true hn

theorem not_inter (O : EnvOk c env) : interactive env = false := by unfold interactive; rw [O.kind]; rfl

/- a name of ours is bound: what holds behind it -/
theorem bind_op {x : Str} {i : Nat} {k : NameKind} {v : V} {v' : Value} {K : Unit → Shared → Prop} (X : Here c env A D μ σ s ℓ) (hi : idxOf x env.scope.names 0 = some (i, k)) (hk : k = .local ∨ k = .cell) (r : VRel μ σ.len s.heap v v')
    (q : ∀ s', Here c env A D μ σ s' (ℓ.set i v) → Step (Own env) μ σ s.heap μ σ s'.heap → TKeep s.heap s'.heap → K () s') : wpAny c.M A (storeName env x v') K E s :=
  store_op X.O X.R X.L hi hk r fun ζ ζ ζ ho ζ ζ al tk hs R' L' => q _ ⟨X.O, X.H, R', L'⟩ (Step.at ho (own_un X.L ho) (SameBut.ext hs) al) tk

theorem ps_expr (PEx : ∀ ie, PE c Γ D ie) (i : IE) : PS c Γ D (.expr i) := by
  intro st sc hc
  refine invs_expr hc fun e q e0 h1 h2 => ?_
  subst e0
  intro env A μ σ s ℓ E Q hs hT X q _
  refine wpAny_Expr_any (onE X ((PEx i _ _ h2).1 env A μ σ s ℓ E _ hs X q) fun v s₁ μ₁ σ₁ x q₁ X₁ S₁ r₁ => ?_) (not_inter X.O) (no_swap h1)
  exact PostS.next X₁ S₁.own q₁

theorem ps_assign (PEx : ∀ ie, PE c Γ D ie) (i : Nat) (j : IE) : PS c Γ D (.assign i j) := by
  intro st sc hc
  refine invs_assign hc fun x p v q k e0 h1 h2 h3 h4 => ?_
  subst e0
  intro env A μ σ s ℓ E Q hs hT X q _
  refine wpAny_Assign_Name (onE X ((PEx j _ _ h3).1 env A μ σ s ℓ E _ hs X q) fun v s₁ μ₁ σ₁ x q₁ X₁ S₁ r₁ => ?_) (no_swap h4)
  exact bind_op X₁ (hs ▸ h1) h2 r₁ fun s' X' S' ζ => PostS.next X' (S₁.own.trans S') q₁

theorem ps_setattr (S0 : SetUp c Γ D) (PEx : ∀ ie, PE c Γ D ie) (i : IE) (m : Nat) (k : IE) : PS c Γ D (.setattr i m k) := by
  intro st sc hc
  refine invs_setattr hc fun o nm p v qq e0 h1 h2 h3 h4 => ?_
  subst e0
  intro env A μ σ s ℓ E Q hs hT X q _
  rw [S0.at_] at h2
  obtain ⟨rfl, _⟩ := attrIx_name h2
  have e : exec (.Assign [.Attribute o (atName m) p] v qq) env = (do standAt qq; let v ← eval v env; assign (.Attribute o (atName m) p) env v; pure .next) := by
    have e1 : exec (.Assign [.Attribute o (atName m) p] v qq) env = (do
        standAt qq
        if ← swapsWith v (some (.Attribute o (atName m) p)) qq.line env then
          evalThenUse v env (assign (.Attribute o (atName m) p) env)
          return .next
        let v ← eval v env
        assign (.Attribute o (atName m) p) env v
        pure .next) := rfl
    rw [e1, no_swap h4]; rfl
  rw [e]
  refine wpAny_bind (wpAny_standAt (wpAny_bind (onE X ((PEx k _ _ h3).1 env A μ σ s ℓ E _ hs X q) fun w s₁ μ₁ σ₁ x q₁ X₁ S₁ r₁ => wpAny_bind (kas_attr ?_))))
  refine onE X₁ ((PEx i _ _ h1).1 env A μ₁ σ₁ s₁ ℓ E _ hs X₁ q₁) fun ow s₂ μ₂ σ₂ y q₂ X₂ S₂ r₂ => ?_
  refine wpAny_mono (setattr_op S0.C S0.F X₂.R r₂ (r₁.step X₁.R S₂) q₂) (fun ζ s₃ z => wpAny_pure ?_) fun ζ ζ z => z
  obtain ⟨μ₃, σ₃, q₃, R₃, S₃⟩ := z
  exact PostS.next (X₂.step R₃ S₃) ((S₁.trans S₂).trans S₃).own q₃

theorem ps_setsub (PEx : ∀ ie, PE c Γ D ie) (a b d : IE) : PS c Γ D (.setsub a b d) := by
  intro st sc hc
  refine invs_setsub hc fun o n p v q e0 h1 h2 h3 h4 => ?_
  subst e0
  intro env A μ σ s ℓ E Q hs hT X q _
  refine wpAny_Assign_Subscript (onE X ((PEx d _ _ h3).1 env A μ σ s ℓ E _ hs X q) fun w s₁ μ₁ σ₁ x q₁ X₁ S₁ r₁ => ?_) (no_swap h4)
  refine onE X₁ ((PEx a _ _ h1).1 env A μ₁ σ₁ s₁ ℓ E _ hs X₁ q₁) fun ow s₂ μ₂ σ₂ y q₂ X₂ S₂ r₂ => ?_
  refine onE X₂ ((PEx b _ _ h2).1 env A μ₂ σ₂ s₂ ℓ E _ hs X₂ q₂) fun iw s₃ μ₃ σ₃ z q₃ X₃ S₃ r₃ => ?_
  refine wpAny_mono (setsub_op X₃.H X₃.R (r₂.step X₂.R S₃) r₃ ((r₁.step X₁.R S₂).step X₂.R S₃) q₃) (fun ζ s₄ z => ?_) fun ζ ζ z => z
  obtain ⟨μ₄, σ₄, q₄, R₄, S₄⟩ := z
  exact PostS.next (X₃.step R₄ S₄) (((S₁.trans S₂).trans S₃).trans S₄).own q₄

theorem ps_aug (PEx : ∀ ie, PE c Γ D ie) (i : Nat) (op : Operator) (j : IE) : PS c Γ D (.aug i op j) := by
  intro st sc hc
  refine invs_aug hc fun x p v qq k e0 h1 h2 h3 => ?_
  subst e0
  intro env A μ σ s ℓ E Q hs hT X q _
  subst hs
  obtain ⟨g, kd⟩ := X.O.kindOf h1
  replace q : someV (ℓ i) fun old => wE Γ j ℓ σ fun v σ => op = .Add ∧ binV .Add old v fun r => Q .next (ℓ.set i r) σ := q
  cases ho : ℓ i with
  | none => rw [ho] at q; exact q.elim
  | some old =>
    rw [ho] at q
    refine wpAny_AugAssign_Name ?_
    have ld : ∀ {K : Value → Shared → Prop}, (∀ w, VRel μ σ.len s.heap old w → K w s) → wpAny c.M A (loadName env x) K E s := fun {K} hK => by
      rcases h2 with rfl | rfl
      · obtain ⟨m, hm, hr⟩ := X.L.ns
        obtain ⟨v', e1, e2⟩ := hr i x old g ho
        exact wpAny_loadName_local X.O.kind kd hm e1 (hK _ e2)
      · obtain ⟨a, u, e1, e2, e3⟩ := X.L.cell i x _ g (.inl rfl)
        obtain ⟨v', rfl, e4⟩ := e3 old ho
        exact wpAny_loadName_cell X.O.kind kd e1 e2 (hK _ e4)
    refine ld fun w rw' => ?_
    refine onE X ((PEx j _ _ h3).1 env A μ σ s ℓ E _ rfl X q) fun w2 s₁ μ₁ σ₁ y q₁ X₁ S₁ r₁ => ?_
    obtain ⟨rfl, q₁⟩ := q₁
    unfold binV at q₁
    cases old with
    | int a =>
      cases y with
      | int b =>
        obtain ⟨t, rfl⟩ := rw'
        obtain ⟨u, rfl⟩ := r₁
        refine PySem.P.iadd_int ?_
        have X₂ : Here c env A D μ₁ σ₁ { s₁ with toks := s₁.toks + 1 } ℓ := ⟨X₁.O, X₁.H, X₁.R.tok, X₁.L⟩
        exact bind_op (v := .int (a + b)) X₂ h1 h2 ⟨_, rfl⟩ fun s' X' S' ζ => PostS.next X' (S₁.own.trans S') q₁
      | _ => exact q₁.elim
    | _ => exact q₁.elim

theorem ps_ite (PEx : ∀ ie, PE c Γ D ie) {i : IE} {j k : ISs} (pj : PSs c Γ D j) (pk : PSs c Γ D k) : PS c Γ D (.ite i j k) := by
  intro st sc hc
  refine invs_ite hc fun c t e q e0 h1 h2 h3 => ?_
  subst e0
  intro env A μ σ s ℓ E Q hs hT X q hE
  refine wpAny_If (wpAny_mono ((PEx i _ _ h1).2 env A μ σ s ℓ E (fun b σ => ifB b (wSs Γ j ℓ σ Q) (wSs Γ k ℓ σ Q)) hs X q) (fun b s₁ z => ?_) fun ζ ζ z => z)
  obtain ⟨μ₁, σ₁, q₁, R₁, S₁⟩ := z
  have X₁ := X.step R₁ S₁
  cases b with
  | true =>
    simp only [if_true]
    exact wpAny_mono (pj _ _ h2 env A μ₁ σ₁ s₁ ℓ E Q hs (fun z => hT (by simp [tryS, z])) X₁ q₁ fun e s' z => hE _ _ (PostSX.from_ S₁.own z)) (fun ζ ζ z => PostS.from_ S₁.own z) fun ζ ζ z => z
  | false =>
    simp only [Bool.false_eq_true, if_false]
    exact wpAny_mono (pk _ _ h3 env A μ₁ σ₁ s₁ ℓ E Q hs (fun z => hT (by simp [tryS, z])) X₁ q₁ fun e s' z => hE _ _ (PostSX.from_ S₁.own z)) (fun ζ ζ z => PostS.from_ S₁.own z) fun ζ ζ z => z

theorem ps_ret (PEx : ∀ ie, PE c Γ D ie) (i : IE) : PS c Γ D (.ret i) := by
  intro st sc hc
  refine invs_ret hc fun e q e0 h1 => ?_
  subst e0
  intro env A μ σ s ℓ E Q hs hT X q _
  refine wpAny_Return_some (onE X ((PEx i _ _ h1).1 env A μ σ s ℓ E _ hs X q) fun v s₁ μ₁ σ₁ x q₁ X₁ S₁ r₁ => ?_)
  exact ⟨μ₁, σ₁, ℓ, X₁.R, S₁.own, X₁.L, .inr ⟨x, v, rfl, r₁, q₁⟩⟩

theorem ps_dead : PS c Γ D .dead := by
  intro st sc hc env A μ σ s ℓ E Q hs _ X q
  exact q.elim

theorem ps_raise (RO : RaiseOp c D) (PEx : ∀ ie, PE c Γ D ie) (i : IE) : PS c Γ D (.raise i) := by
  intro st sc hc
  refine invs_raise hc fun e q e0 h1 => ?_
  subst e0
  intro env A μ σ s ℓ E Q hs hT X q hE
  refine RO X (onE X ((PEx i _ _ h1).1 env A μ σ s ℓ E _ hs X q) fun v s₁ μ₁ σ₁ x q₁ X₁ S₁ r₁ => ?_)
  cases x <;> first | exact (show False from q₁).elim | skip
  refine excO_out q₁ fun b g q₁ => ?_
  obtain ⟨_, rfl⟩ := r₁
  exact ⟨μ₁, σ₁, _, b, X₁, rfl, g, fun s' R' S' z => hE _ _ ⟨μ₁, _, ℓ, b, _, q₁, R', (S₁.trans S').own, X₁.L.step X₁.R S', rfl, z⟩⟩

theorem pss_nil : PSs c Γ D .nil := by
  intro sts sc hc env A μ σ s ℓ E Q hs hT X q _
  rw [invs_nil hc]
  exact wpAny_execs_nil (PostS.next X (Step.refl ..) q)

theorem pss_cons {i : IS} {l : ISs} (pi : PS c Γ D i) (pl : PSs c Γ D l) : PSs c Γ D (.cons i l) := by
  intro sts sc hc env A μ σ s ℓ E Q hs hT X q hE
  refine invs_cons hc fun st r e0 h1 h2 => ?_
  subst e0
  refine wpAny_execs_cons (wpAny_mono (pi _ _ h1 env A μ σ s ℓ E _ hs (fun z => hT (by simp [trySs, z])) X q fun e s' z => hE _ _ (let ⟨μ₂, σ₂, ℓ₂, b, x, q, R, S', L, e0, X⟩ := z; ⟨μ₂, σ₂, ℓ₂, b, x, q, R, S', L, e0, X⟩)) (fun fl s₁ z => ?_) fun ζ ζ z => z)
  obtain ⟨μ₁, σ₁, ℓ₁, R₁, S₁, L₁, z⟩ := z
  rcases z with ⟨rfl, q₁⟩ | ⟨v, v', rfl, r₁, q₁⟩
  · have X₁ : Here c env A D μ₁ σ₁ s₁ ℓ₁ := ⟨X.O, X.H, R₁, L₁⟩
    exact wpAny_mono (pl _ _ h2 env A μ₁ σ₁ s₁ ℓ₁ E Q hs (fun z => hT (by simp [trySs, z])) X₁ q₁ fun e s' z => hE _ _ (PostSX.from_ S₁ z)) (fun ζ ζ z => PostS.from_ S₁ z) fun ζ ζ z => z
  · exact ⟨μ₁, σ₁, ℓ₁, R₁, S₁, L₁, .inr ⟨v, v', rfl, r₁, q₁⟩⟩

theorem ps_assignC (S0 : SetUp c Γ D) (PEx : ∀ ie, PE c Γ D ie) (PEs : ∀ l, AllE c Γ D l) (i : Nat) (j : IE) : PS c Γ D (.assignC i j) := by
  intro st sc hc
  refine invs_assignC hc fun ij xi ii ls lk y p elt gens cs cp qq ej e0 h1 h2 h3 h4 h5 => ?_
  subst e0 ej
  refine inv_comp h2 fun elt' x p1 src ifs cs' p' e1 hm hok h0 g1 g2 g3 => ?_
  cases e1
  subst hm
  intro env A μ σ s ℓ E Q hs hT X q _
  subst hs
  obtain ⟨g, kd⟩ := X.O.kindOf h1
  have sw : swapsWith (.ListComp elt [⟨.Name x p1, src, ifs, 0⟩] cs cp) (some (.Name y p)) qq.line env = pure true := by
    show (pure (env.blockKind == .function && env.kindOf y == some .local && p.line == cp.line && !(cs.names.any fun (n, k) => n == y && (k == .local || k == .cell))) : Sem Bool) = _
    have hb : env.blockKind = .function := by unfold Env.blockKind; rw [X.O.kind]; rfl
    rw [hb, kd, h3, h5]
    simp
  rw [exec_Assign_Name_used _ _ _ _ sw]
  refine wpAny_bind (wpAny_standAt (wpAny_bind ?_))
  show wpAny _ A (do let _ ← comprehension (.ListComp elt [⟨.Name x p1, src, ifs, 0⟩] cs cp) cs env _ (newList []) false (eval src env) (some (assign (.Name y p) env))) _ _ s
  refine wpAny_bind (wpAny_mono (comp_run (use := some (assign (.Name y p) env)) (K := fun ζ s' => PostS c.toCx env μ σ s.heap Q .next s') S0 hok X (PEx _) (PEx _) (PEs _) h0 g1 g2 g3 q fun s₁ μ₁ σ₁ Dd C s' μ' σ' acc R₁ S₁ nD nC hne qa z => ?_) (fun ζ s' hq => wpAny_pure (wpAny_pure hq)) fun ζ ζ z => z)
  obtain ⟨m, hm⟩ := z.ns
  obtain ⟨xs, k, ga, ra⟩ := z.acc
  have nB : ∀ {a : Addr}, s₁.heap.get? a = none → c.B.get? a = none := fun {a} hn => by
    cases e : c.B.get? a with
    | none => rfl
    | some o => rw [R₁.keep _ _ e] at hn; cases hn
  have new : ORel c.toCx (ext μ' σ'.len Dd 0) (σ'.len + 1) s'.heap σ'.len (.list acc) :=
    ⟨xs, k, by rw [ext_even]; exact ga, ra.mono (Nat.le_succ _) (fun i hi => ext_lt (by omega)) (TKeep.of_keeps fun ζ ζ e => e)⟩
  have S₂ : Step noP μ₁ σ₁ s₁.heap (ext μ' σ'.len Dd 0) (σ'.add (.list acc)) s'.heap := z.S.adopt rfl nD
  have R₂ : Rel c.toCx (ext μ' σ'.len Dd 0) (σ'.add (.list acc)) s' := z.R.adopt (o := .list acc) rfl z.uD (nB nD) new
  have X₂ : Here c env A D (ext μ' σ'.len Dd 0) (σ'.add (.list acc)) s' ℓ := ⟨X.O, X.H, R₂, (X.L.step X.R S₁).step R₁ S₂⟩
  have uC : ∀ j, Used (σ'.add (.list acc)) j → ext μ' σ'.len Dd 0 j ≠ C := fun j u => by
    rcases used_add.mp u with u | rfl | ⟨_, t⟩
    · rw [ext_lt (used_lt u)]; exact z.uC j u
    · rw [ext_even]; exact hne
    · cases t
  have LC : env.locals ≠ C := fun e => by
    obtain ⟨m', ⟨o, _, _, ho, _⟩, _⟩ := (X.L.step X.R S₁).ns
    rw [e, nC] at ho; cases ho
  have CC : ∀ w, (w, C) ∉ env.cells := fun w hw => by
    obtain ⟨u, o, ho, _⟩ := (X.L.step X.R S₁).there w C hw
    rw [nC] at ho; cases ho
  show wpAny _ A (assign (.Name y p) env (.ref Dd)) _ _ _
  refine wpAny_assign_Name (store_op (v := .obj σ'.len) X₂.O X₂.R X₂.L h1 (.inl rfl) ⟨by rw [St.len_add]; omega, by rw [ext_even]⟩ fun h3' tk a ho ea ζ al tk3 hs3 R3 L3 => ?_)
  obtain rfl := ea rfl
  have S3 : Step (Own env) (ext μ' σ'.len Dd 0) (σ'.add (.list acc)) s'.heap (ext μ' σ'.len Dd 0) (σ'.add (.list acc)) h3' := Step.at (.inl rfl) X₂.L.offL (SameBut.ext hs3) al
  have hm3 : h3'.Ns C m := hm.sameBut hs3 (Ne.symm LC)
  refine ⟨m, hm3, fun h4' hs4 => ?_⟩
  have tk4 : TKeep h3' h4' := TKeep.of_ext (SameBut.ext hs4) (ns_frozen hm3)
  have R4 : Rel c.toCx (ext μ' σ'.len Dd 0) (σ'.add (.list acc)) { s' with heap := h4', toks := tk } := Rel.other (s := { s' with heap := h3', toks := tk }) R3 uC (nB nC) (SameBut.ext hs4) tk4
  have S4 : Step (Own env) μ₁ σ₁ s₁.heap (ext μ' σ'.len Dd 0) (σ'.add (.list acc)) h4' := (S₂.own.trans S3).other nC (SameBut.ext hs4)
  exact ⟨_, _, _, R4, S₁.own.trans S4, L3.other (Ne.symm LC) CC (SameBut.ext hs4) tk4, .inl ⟨rfl, qa⟩⟩
end
end Mine.Internal
end
section
open PySem PySem.W PySem.Calls PyProof.Rows
set_option maxRecDepth 100000
namespace Mine.Internal

section
variable {c : Cy} {μ μ' : Nat → Addr} {σ σ' : St} {s s' : Shared} {h h' h₁ : Heap} {P P' : Addr → Prop} {n n' : Nat} {env : Env} {A : Around} {ℓ ℓ' : Loc} {E : Value → Shared → Prop} {D : Nat} {Γ : Env'} {sc cs : Scope} {e : Expr} {ie : IE} {C : Addr}

theorem Step.drop2 (S : Step P μ σ h μ' σ' h') (k : ∀ b o, h₁.get? b = some o → h.get? b = some o) (hP : ∀ b, P b → h₁.get? b = none ∨ P' b) : Step P' μ σ h₁ μ' σ' h' where
  live := fun b o e => S.live b o (k b o e)
  len := S.len
  mono := S.mono
  same := S.same
  fresh := fun j u nu => by
    have := S.fresh j u nu
    cases e : h₁.get? (μ' j) with
    | none => rfl
    | some o => rw [k _ _ e] at this; cases this
  keep := fun b o e t n => S.keep b o (k b o e) t fun p => (hP b p).elim (fun z => by rw [z] at e; cases e) n
  vers := S.vers
  obj := S.obj
  still := fun j u e x o g => S.still j u e x o (k _ o g)

theorem forLoop_ver {f : Loc → St → (Fl → Loc → St → Prop) → Prop} {v : V} {k x : Nat} {r : List V} {Q : Fl → Loc → St → Prop} (q : forLoop f v k x r ℓ σ Q) : srcVer σ v = k := by
  cases r with
  | nil => exact q.1
  | cons a b => exact q.1

/- the state of a for loop -/
structure FInv (c : Cy) (env : Env) (μ₁ : Nat → Addr) (σ₁ : St) (h₂ : Heap) (I : Addr) (l : List V) (St' : Nat → Heap → Prop) (r : List V) (ℓ : Loc) (μ : Nat → Addr) (σ : St) (s : Shared) : Prop where
  R : Rel c.toCx μ σ s
  S : Step (fun b => Own env b ∨ b = I) μ₁ σ₁ h₂ μ σ s.heap
  L : LRel env ℓ μ σ s.heap
  st : St' (l.length - r.length) s.heap

theorem for_loop {v : V} {l : List V} {I : Addr} {fp : List Addr} {P' : Nat → Value → Prop} {St' : Nat → Heap → Prop} {s₁ : Shared} {h₂ : Heap} {μ₁ : Nat → Addr} {σ₁ : St} {x : Str} {px : Pos} {i : Nat} {kd : NameKind} {bs : List Stmt} {b : ISs} {Q : Fl → Loc → St → Prop} {ℓ₁ : Loc}
    (X₁ : Here c env A D μ₁ σ₁ s₁ ℓ₁) (T : Src c A μ₁ σ₁ s₁.heap v l I fp P' St') (k12 : ∀ b o, s₁.heap.get? b = some o → h₂.get? b = some o) (nI : s₁.heap.get? I = none) (aI : ∃ o, h₂.get? I = some o) (hi : idxOf x env.scope.names 0 = some (i, kd)) (hk : kd = .local ∨ kd = .cell)
    (hT : trySs b = true → Solo A env) (pb : PSs c Γ D b) (hb : chkSs c.T b env.scope bs = true) {RR : Result → Shared → Prop} (hR : ∀ fl s', PostS c.toCx env μ₁ σ₁ s₁.heap Q fl s' → RR (.ok fl) s') :
    ∀ (r : List V) (ℓ : Loc) (μ : Nat → Addr) (σ : St) (s : Shared), (∃ done, l = done ++ r) → FInv c env μ₁ σ₁ h₂ I l St' r ℓ μ σ s → forLoop (wSs Γ b) v (srcVer σ₁ v) i r ℓ σ Q →
      codeAny c.M A (.forLoop (.Name x px) (.ref I) bs [] env) RR s := by
  have nOwn := Own.not X₁.L nI
  have nL : I ≠ env.locals := fun e => nOwn (.inl e)
  have nCs : ∀ x, (x, I) ∉ env.cells := fun x hx => nOwn (.inr ⟨x, hx⟩)
  have nBI := X₁.R.nB nI
  have back : ∀ {μ : Nat → Addr} {σ : St} {h' : Heap}, Step (fun b => Own env b ∨ b = I) μ₁ σ₁ h₂ μ σ h' → Step (Own env) μ₁ σ₁ s₁.heap μ σ h' := fun S => S.drop2 k12 fun b p => p.elim .inr fun e => .inl (e ▸ nI)
  intro r₀ ℓ₀ μ₀ σ₀ s₀ d₀ J₀ q₀
  refine codeAny_forLoop (fun k s => ∃ r ℓ μ σ, k = r.length ∧ (∃ done, l = done ++ r) ∧ FInv c env μ₁ σ₁ h₂ I l St' r ℓ μ σ s ∧ forLoop (wSs Γ b) v (srcVer σ₁ v) i r ℓ σ Q) ?_ r₀.length ⟨r₀, ℓ₀, μ₀, σ₀, rfl, d₀, J₀, q₀⟩
  rintro k s ⟨r, ℓ, μ, σ, rfl, ⟨done, hd⟩, J, q⟩
  have uI := X₁.R.unt nI aI J.S
  obtain ⟨oI, gI, fI⟩ := T.it _ _ J.st
  cases r with
  | nil =>
    obtain ⟨qv, q⟩ := q
    refine T.W.done s _ _ (by have := J.st; rwa [List.length_nil, Nat.sub_zero] at this) fun h' tk hk' => ?_
    have ext : ∀ b o, b ≠ I → s.heap.get? b = some o → h'.get? b = some o := fun b o n e => hk' b o (by simpa using n) e
    have tk' : TKeep s.heap h' := TKeep.of_ext ext ⟨oI, gI, fI⟩
    exact wpAny_execs_nil (hR _ _ ⟨μ, σ, ℓ, J.R.other uI nBI ext tk', (back J.S).other nI ext, J.L.other nL nCs ext tk', .inl ⟨rfl, q⟩⟩)
  | cons it r =>
    obtain ⟨qv, q⟩ := q
    obtain ⟨hi', hgi, hr1⟩ := at_rest hd
    refine T.W.item _ s _ _ hi' J.st fun w h1' tk1 hPw hst1 hk1 => ?_
    have ext1 : ∀ b o, b ≠ I → s.heap.get? b = some o → h1'.get? b = some o := fun b o n e => hk1 b o (by simpa using n) e
    have tk1' : TKeep s.heap h1' := TKeep.of_ext ext1 ⟨oI, gI, fI⟩
    obtain ⟨oI1, gI1, fI1⟩ := T.it _ _ hst1
    have R1 : Rel c.toCx μ σ { s with heap := h1', toks := tk1 } := J.R.other uI nBI ext1 tk1'
    have S1 : Step (fun b => Own env b ∨ b = I) μ σ s.heap μ σ h1' := Step.at (.inr rfl) uI ext1 ⟨oI1, gI1⟩
    have X1 : Here c env A D μ σ { s with heap := h1', toks := tk1 } ℓ := ⟨X₁.O, X₁.H, R1, J.L.other nL nCs ext1 tk1'⟩
    obtain ⟨it', hit, rit⟩ := T.item _ _ hi' hPw
    rw [hgi] at hit
    cases hit
    have St := J.S.trans S1
    have rit1 := X₁.R.item k12 St (fun b o p e => p.elim (fun p => Own.thawed X₁.L p e) fun q => no_some (nI.symm.trans (q ▸ e))) rit
    refine wpAny_assign_Name (bind_op X1 hi hk rit1 fun s2 X2 S2 tk2 => ?_)
    refine wpAny_mono (pb _ _ hb env A μ σ s2 _ _ _ rfl hT X2 q fun e s' z => z.elim1 fun ζ ζ ζ f => f) (fun fl s3 z => ?_) fun ζ ζ z => z
    obtain ⟨μ3, σ3, ℓ3, R3, S3, L3, z⟩ := z
    have S23 := S2.trans S3
    have S13 := S1.trans (S23.weaken (P' := fun b => Own env b ∨ b = I) fun ζ p => .inl p)
    rcases z with ⟨rfl, q3⟩ | ⟨y, y', rfl, r3, q3⟩
    · refine ⟨r.length, by simp, r, ℓ3, μ3, σ3, rfl, ⟨done ++ [it], by rw [hd]; simp⟩, ⟨R3, J.S.trans S13, L3, ?_⟩, q3⟩
      rw [hr1]
      have hv := forLoop_ver q3
      refine T.W.frame _ _ _ hst1 fun b hb o e => ?_
      rcases T.fp b hb with rfl | ⟨ob, g1, f1⟩ | ⟨ii, rfl, hii, eb, nx⟩
      · exact S23.keep _ _ e uI nOwn
      · exact S23.keep _ _ e (X₁.R.untF k12 g1 f1 J.S) fun p => Own.thawed X₁.L p g1 f1
      · exact J.S.stillO S23 hii eb nx hv qv fun ζ ζ ζ => e
    · exact hR _ _ ⟨μ3, σ3, ℓ3, R3, back (J.S.trans S13), L3, .inr ⟨y, y', rfl, r3, q3⟩⟩

theorem ps_for (PEx : ∀ ie, PE c Γ D ie) {i : Nat} {j : IE} {k : ISs} (pk : PSs c Γ D k) : PS c Γ D (.for i j k) := by
  intro st sc hc
  refine invs_for hc fun fx fp fe fb fq fk e0 h1 h2 h3 h4 => ?_
  subst e0
  intro env A μ σ s ℓ E Q hs hT X q hE
  subst hs
  refine wpAny_For (onE X ((PEx j _ _ h3).1 env A μ σ s ℓ E _ rfl X q) fun v' s₁ μ₁ σ₁ v q₁ X₁ S₁ r₁ => ?_) (folded_plain h3)
  replace q₁ := srcV_out q₁
  cases hl : srcItems σ₁ v with
  | none => rw [hl] at q₁; exact q₁.elim
  | some l =>
    rw [hl] at q₁
    obtain ⟨_, q₁⟩ := q₁
    refine wpAny_mono (src_open X₁.H.handled X₁.R r₁ hl) (fun it s₂ hit => ?_) fun ζ ζ z => z
    obtain ⟨I, fp, P', St', o, rfl, rfl, rfl, st0, T⟩ := hit
    have k12 := keep_push (h := s₁.heap) o
    have R₂ : Rel c.toCx μ₁ σ₁ { s₁ with heap := s₁.heap.push o } := X₁.R.grow k12 (tk := s₁.toks)
    obtain ⟨oI, gI, _⟩ := T.it _ _ st0
    refine for_loop (Q := Q) X₁ T k12 none_size ⟨oI, gI⟩ h1 h2 (fun z => hT (by simpa [tryS] using z)) pk h4 (fun fl s' z => PostS.from_ S₁.own z) l ℓ μ₁ σ₁ _ ⟨[], rfl⟩ ⟨R₂, Step.refl .., X₁.L.step X₁.R (Step.grow k12), by rw [Nat.sub_self]; exact st0⟩ q₁

theorem ps_while (PEx : ∀ ie, PE c Γ D ie) {i : IE} {j : ISs} (pj : PSs c Γ D j) : PS c Γ D (.while i j) := by
  intro st sc hc
  refine invs_while hc fun wc wt wq e0 h1 h2 => ?_
  subst e0
  intro env A μ σ s ℓ E Q hs hT X q hE
  subst hs
  obtain ⟨m, q⟩ := q
  refine wpAny_While ?_
  refine codeAny_whileLoop (fun k s' => ∃ ℓ' μ' σ', Here c env A D μ' σ' s' ℓ' ∧ Step (Own env) μ σ s.heap μ' σ' s'.heap ∧ whileLoop (wE Γ i) (fun ℓ σ Q => wSs Γ j ℓ σ Q) k ℓ' σ' Q) ?_ m ⟨ℓ, μ, σ, X, Step.refl .., q⟩
  rintro k s' ⟨ℓ', μ', σ', X', S', q'⟩
  cases k with
  | zero => exact q'.elim
  | succ k =>
    refine wpAny_mono ((PEx i _ _ h1).2 env A μ' σ' s' ℓ' _ _ rfl X' q') (fun b s₁ z => ?_) fun ζ ζ z => z
    obtain ⟨μ₁, σ₁, q₁, R₁, S₁⟩ := z
    have X₁ := X'.step R₁ S₁
    cases b with
    | true =>
      simp only [if_true]
      refine wpAny_mono (pj _ _ h2 env A μ₁ σ₁ s₁ ℓ' _ _ rfl (fun z => hT (by simpa [tryS] using z)) X₁ q₁ fun e s' z => z.elim1 fun ζ ζ ζ f => f) (fun fl s₂ z => ?_) fun ζ ζ z => z
      obtain ⟨μ₂, σ₂, ℓ₂, R₂, S₂, L₂, z⟩ := z
      rcases z with ⟨rfl, q₂⟩ | ⟨y, y', rfl, r₂, q₂⟩
      · exact ⟨k, Nat.lt_succ_self _, ℓ₂, μ₂, σ₂, ⟨X.O, X.H, R₂, L₂⟩, (S'.trans S₁.own).trans S₂, q₂⟩
      · exact ⟨μ₂, σ₂, ℓ₂, R₂, (S'.trans S₁.own).trans S₂, L₂, .inr ⟨y, y', rfl, r₂, q₂⟩⟩
    | false =>
      simp only [Bool.false_eq_true, if_false]
      exact wpAny_execs_nil (PostS.next X₁ (S'.trans S₁.own) q₁)

/- try of deed 6: told later -/
noncomputable def TryOp (c : Cy) (Γ : Env') (D : Nat) : Prop := ∀ (o : IE) (n : Nat) (l : IEs) (x a y : Nat), PS c Γ D (.try1 o n l x a y)

mutual
theorem allIS (S0 : SetUp c Γ D) (SO : SortOp c D Γ.srt) (XO : ExcOp c D) (RO : RaiseOp c D) (TO : TryOp c Γ D) : ∀ is : IS, PS c Γ D is
  | .dead => ps_dead
  | .expr e => ps_expr (allIE S0 SO XO) e
  | .assign i e => ps_assign (allIE S0 SO XO) i e
  | .assignC i e => ps_assignC S0 (allIE S0 SO XO) (allIEs S0 SO XO) i e
  | .setattr o n e => ps_setattr S0 (allIE S0 SO XO) o n e
  | .setsub o i e => ps_setsub (allIE S0 SO XO) o i e
  | .aug i op e => ps_aug (allIE S0 SO XO) i op e
  | .ite c t e => ps_ite (allIE S0 SO XO) (allISs S0 SO XO RO TO t) (allISs S0 SO XO RO TO e)
  | .while c b => ps_while (allIE S0 SO XO) (allISs S0 SO XO RO TO b)
  | .for i s b => ps_for (allIE S0 SO XO) (allISs S0 SO XO RO TO b)
  | .ret e => ps_ret (allIE S0 SO XO) e
  | .raise e => ps_raise RO (allIE S0 SO XO) e
  | .try1 o n l x a y => TO o n l x a y
theorem allISs (S0 : SetUp c Γ D) (SO : SortOp c D Γ.srt) (XO : ExcOp c D) (RO : RaiseOp c D) (TO : TryOp c Γ D) : ∀ is : ISs, PSs c Γ D is
  | .nil => pss_nil
  | .cons s l => pss_cons (allIS S0 SO XO RO TO s) (allISs S0 SO XO RO TO l)
end
end
end Mine.Internal
end
section
open PySem PySem.W PySem.Calls PyProof.Rows
set_option maxRecDepth 100000
namespace Mine.Internal

theorem lookup_zip {α : Type} : ∀ {ns : List Str} {vs : List α}, vs.length = ns.length → ∀ n ∈ ns, ∃ v, (ns.zip vs).lookup n = some v
  | [], _, _, n, h => by cases h
  | x :: r, [], e, n, h => by cases e
  | x :: r, v :: vs, e, n, h => by
    rw [List.zip_cons_cons, List.lookup_cons]
    cases q : n == x with
    | true => exact ⟨v, rfl⟩
    | false =>
      rcases List.mem_cons.mp h with rfl | h
      · rw [beq_self_eq_true] at q; cases q
      · exact lookup_zip (by simpa using e) n h
theorem fm_congr {α β : Type} {f g : α → Option β} : ∀ {l : List α}, (∀ x ∈ l, f x = g x) → l.filterMap f = l.filterMap g
  | [], _ => rfl
  | a :: l, h => by rw [List.filterMap_cons, List.filterMap_cons, h a (.head _), fm_congr fun x hx => h x (.tail _ hx)]
theorem filterMap_zip {α : Type} : ∀ {ns : List Str} {vs : List α}, vs.length = ns.length → ns.Nodup → (ns.filterMap fun n => ((ns.zip vs).lookup n).map (n, ·)) = ns.zip vs
  | [], vs, e, _ => by simp
  | x :: r, [], e, _ => by cases e
  | x :: r, v :: vs, e, hn => by
    rw [List.nodup_cons] at hn
    have ih := filterMap_zip (ns := r) (vs := vs) (by simpa using e) hn.2
    rw [List.zip_cons_cons, List.filterMap_cons]
    simp only [List.lookup_cons, beq_self_eq_true, Option.map_some]
    congr 1
    refine Eq.trans (fm_congr fun n hm => ?_) ih
    have : (n == x) = false := by
      cases q : n == x with
      | false => rfl
      | true => rw [beq_iff_eq.mp q] at hm; exact absurd hm hn.1
    rw [this]

theorem forIn_id {α β : Type} {M : Model} {A : Around} {E : Value → Shared → Prop} {s : Shared} {Q : β → Shared → Prop} {b : β} {f : α → β → Sem (ForInStep β)} {l : List α} (h : ∀ p ∈ l, f p b = pure (.yield b)) (q : Q b s) : wpAny M A (forIn l b f) Q E s := by
  have e : forIn l b f = (pure b : Sem β) := by
    induction l with
    | nil => rfl
    | cons p l ih => exact (List.forIn_cons ..).trans ((congrArg (fun m => m >>= _) (h p (.head _))).trans ((pure_bind ..).trans (ih fun p' hp' => h p' (.tail _ hp'))))
  exact e ▸ wpAny_pure q
theorem bind_simple {s : Shared} {fd : FuncData} {vals : List Value} (h1 : fd.params.posonlyargs = []) (h2 : fd.params.kwonlyargs = []) (h3 : fd.params.vararg = none) (h4 : fd.params.kwarg = none) (hn : (fd.params.args.map (·.arg)).Nodup)
    (hl : vals.length = (fd.params.args.map (·.arg)).length) {r : Option (Array Value)} (hd : ∀ (M : Model) (A : Around) (E : Value → Shared → Prop) (Q : Option (Array Value) → Shared → Prop), Q r s → wpAny M A (seqItems? fd.defaults) Q E s) :
    BindsTo s fd ⟨vals, []⟩ ((fd.params.args.map (·.arg)).zip vals) := by
  intro M A E Q q
  delta bindArgs
  obtain ⟨pa, kd, ds, hp⟩ : ∃ pa kd ds, fd.params = ⟨[], pa, none, [], kd, none, ds⟩ := by
    generalize fd.params = p at h1 h2 h3 h4
    cases p; cases h1; cases h2; cases h3; cases h4; exact ⟨_, _, _, rfl⟩
  rw [hp] at hn hl q
  have look : ∀ n ∈ pa.map (·.arg), (((pa.map (·.arg)).zip vals).lookup n).isNone = false := fun n hm => by
    obtain ⟨v, hv⟩ := lookup_zip hl n hm
    rw [hv]; rfl
  rw [hp]
  refine wpAny_bind (wpAny_pure (wpAny_bind (hd M A _ _ (wpAny_ite_false (decide_eq_false fun h => ?_) (wpAny_ite_false ?_ (wpAny_bind (forIn_id (fun p hm => if_neg ?_) (wpAny_bind (wpAny_pure (wpAny_ite_false rfl (wpAny_pure ?_))))))))))) 
  · exact Nat.lt_irrefl _ (hl ▸ of_decide_eq_true (Bool.and_eq_true_iff.mp h).1)
  · exact congrArg (fun l : List Str => decide ((!l.isEmpty) = true)) (List.filter_eq_nil_iff.mpr fun n hm => fun z => Bool.false_ne_true ((look n (List.mem_of_mem_take hm)).symm.trans z))
  · exact fun z => Bool.false_ne_true ((look _ (List.mem_of_mem_drop (List.of_mem_zip (a := p.1) (b := p.2) hm).1)).symm.trans z)
  · rw [← filterMap_zip hl hn] at q
    exact (List.append_nil (pa.map (·.arg))).symm ▸ q
end Mine.Internal
end
section
open PySem PySem.W PySem.Calls PyProof.Rows
set_option maxRecDepth 100000
namespace Mine.Internal

structure FDef where
  pars : List Nat
  body : ISs

noncomputable def argLoc : List Nat → List V → Loc
  | i :: is, v :: vs => (argLoc is vs).set i v
  | _, _ => fun ζ => none

noncomputable def resFl (Q X : V → St → Prop) (fl : Fl) (σ : St) : Prop := match fl with
  | .next => Q .none σ
  | .ret v => Q v σ
  | .exc b => X b σ

noncomputable def runFn (Γ : Env') (fd : Option FDef) : FnSpec := fun vs σ Q X => match fd with
  | none => False
  | some fd => vs.length = fd.pars.length ∧ wSs Γ fd.body (argLoc fd.pars vs) σ fun fl ζ σ' => resFl Q X fl σ'

/- the functions, to a depth of calls -/
noncomputable def Γof (tab : Nat → Option FDef) (srt : List Row3 → List Row3) : Nat → Env'
  | 0 => { fn := fun ζ ζ ζ ζ ζ => False, srt }
  | D + 1 => { fn := fun id => runFn (Γof tab srt D) (tab id), srt }

noncomputable def fnData : Data → Option FuncData | .func fd => some fd | _ => none
theorem fnData_eq {d : Data} {fd : FuncData} (h : fnData d = some fd) : d = .func fd := by cases d <;> first | exact no_some h | exact congrArg Data.func (sinj h)
noncomputable def fdOf (K : Frag) (a : Addr) : Option FuncData := (K.lookup a).bind fun o => fnData o.data
theorem fdOf_out {K : Frag} {a : Addr} {fd : FuncData} {C : Prop} (h : fdOf K a = some fd) (k : ∀ o, K.lookup a = some o → o.data = .func fd → C) : C :=
  let ⟨o, h1, h2⟩ := Option.bind_eq_some_iff.mp h; k o h1 (fnData_eq h2)
noncomputable def stmtsOf (fd : FuncData) : List Stmt := match fd.body with
  | .stmts l => l
  | _ => []

noncomputable def parOk (sc : Scope) : List Str → List Nat → Bool
  | [], is => is.isEmpty
  | x :: xs, is => match is with
    | [] => false
    | i :: is => ixLC x sc i && parOk sc xs is
noncomputable def isStmts : FuncBody → Bool
  | .stmts _ => true
  | _ => false
theorem stmts_of {fd : FuncData} (h : isStmts fd.body = true) : fd.body = .stmts (stmtsOf fd) := by
  unfold stmtsOf
  cases e : fd.body <;> first | rfl | (rw [e] at h; exact no_true h)
noncomputable def dfltOk (K : Frag) (v : Value) : Bool := (v == .none) || wRef v fun T => (K.lookup T).any fun o => dSeq o.data fun ζ ζ => true
noncomputable def fnChecks (K : Frag) (fd : FuncData) (pars : List Nat) : List Bool :=
  [isStmts fd.body, fd.closure.isEmpty, decide (fd.globals = mainGlobals), decide (fd.builtins = builtinsNs), codeIn K fd.code fd.qualname, fd.params.posonlyargs.isEmpty, fd.params.kwonlyargs.isEmpty, fd.params.vararg.isNone, fd.params.kwarg.isNone,
  decide (fd.params.args.map (·.arg)).Nodup, dfltOk K fd.defaults, fd.scope.kind == .function, !fd.scope.isCoroutine, !fd.scope.isGenerator, decide (fd.scope.names.map (·.1)).Nodup, fd.scope.names.all fun x => x.2 != .free, parOk fd.scope (fd.params.args.map (·.arg)) pars]
noncomputable def fnCheck (K : Frag) (fd : FuncData) (pars : List Nat) : Bool := (fnChecks K fd pars).all fun b => b
noncomputable def FnOk (K : Frag) (T : CT) (a : Addr) (f : FDef) : Prop := ∃ fd, fdOf K a = some fd ∧ fnCheck K fd f.pars = true ∧ chkSs T f.body fd.scope (stmtsOf fd) = true

/- an exception leaves a frame, below which there is just one: told later -/
noncomputable def LeaveOp (c : Cy) : Prop := ∀ {env envL : Env} {A : Around} {μ : Nat → Addr} {σ : St} {s : Shared} {ℓ : Loc} {b : V} {x : Addr} {K : Unit → Shared → Prop} {E : Value → Shared → Prop}, A.frames = some [env, envL] → EnvOk c env → env.frame = some env.locals →
  envL.scope.kind = .function → envL.frame = some envL.locals → (∃ m, s.heap.Ns envL.locals m) → (∀ j, Used σ j → μ j ≠ envL.locals) → c.B.get? envL.locals = none → Rel c.toCx μ σ s → LRel env ℓ μ σ s.heap →
  ExcAt c.toCx μ σ s.heap x b NoTb → (∀ s', Rel c.toCx μ σ s' → Step (fun a => Own env a ∨ a = envL.locals) μ σ s.heap μ σ s'.heap → SlotsAt envL.locals s.heap s'.heap → ExcAt c.toCx μ σ s'.heap x b (TbIn s.heap s'.heap) → K () s') → wpAny c.M A (leaving env (.ref x)) K E s

section
variable {c : Cy} {μ μ' : Nat → Addr} {σ σ' : St} {s s' : Shared} {h h' h₁ : Heap} {P P' : Addr → Prop} {n n' : Nat} {env : Env} {A : Around} {ℓ ℓ' : Loc} {E : Value → Shared → Prop} {D : Nat} {Γ : Env'} {sc cs : Scope} {e : Expr} {ie : IE} {C : Addr}

theorem bindL_other {k : Str → Option NameKind} : ∀ {b : List (Str × Value)} {m : Str → Option Value} {x : Str}, x ∉ b.map (·.1) → bindL k b m x = m x
  | [], _, _, _ => rfl
  | (y, v) :: r, m, x, h => by
    unfold bindL
    rw [bindL_other (fun q => h (by simp [q]))]
    split
    · show (if x = y then _ else _) = _
      rw [if_neg (fun q => h (by simp [q]))]
    · rfl
theorem bindL_get {k : Str → Option NameKind} : ∀ {b : List (Str × Value)} {m : Str → Option Value} {x : Str} {v : Value}, (b.map (·.1)).Nodup → k x = some .local → (x, v) ∈ b → bindL k b m x = some v
  | [], _, _, _, _, _, h => by cases h
  | (y, w) :: r, m, x, v, hn, hk, h => by
    rw [List.map_cons, List.nodup_cons] at hn
    unfold bindL
    rcases List.mem_cons.mp h with h | h
    · cases h
      rw [bindL_other hn.1, if_pos hk, if_pos rfl]
    · exact bindL_get hn.2 hk h
theorem bindC_other {k : Str → Option NameKind} : ∀ {b : List (Str × Value)} {m : Str → Option Value} {x : Str}, x ∉ b.map (·.1) → bindC k b m x = m x
  | [], _, _, _ => rfl
  | (y, v) :: r, m, x, h => by
    unfold bindC
    rw [bindC_other (fun q => h (by simp [q]))]
    split
    · rfl
    · show (if x = y then _ else _) = _
      rw [if_neg (fun q => h (by simp [q]))]
theorem bindC_get {k : Str → Option NameKind} : ∀ {b : List (Str × Value)} {m : Str → Option Value} {x : Str} {v : Value}, (b.map (·.1)).Nodup → k x ≠ some .local → (x, v) ∈ b → bindC k b m x = some v
  | [], _, _, _, _, _, h => by cases h
  | (y, w) :: r, m, x, v, hn, hk, h => by
    rw [List.map_cons, List.nodup_cons] at hn
    unfold bindC
    rcases List.mem_cons.mp h with h | h
    · cases h
      rw [bindC_other hn.1, if_neg hk, if_pos rfl]
    · exact bindC_get hn.2 hk h

set_option tactic.hygienic true in
theorem cellsFrom_has : ∀ {names : List (Str × NameKind)} {k : Nat} {acc : List (Str × Addr)} {x : Str}, ((acc.lookup x).isSome = true ∨ (x, NameKind.cell) ∈ names) → ((cellsFrom k names acc).lookup x).isSome = true
  | [], _, _, _, h => by
    rcases h with h | h
    · exact h
    · cases h
  | (y, kd) :: r, k, acc, x, h => by
    unfold cellsFrom
    split
    · rename_i hk
      refine cellsFrom_has ?_
      rw [List.lookup_cons]
      cases q : x == y with
      | true => exact .inl rfl
      | false =>
        rcases h with h | h
        · exact .inl h
        · rcases List.mem_cons.mp h with h | h
          · cases h; rw [beq_self_eq_true] at q; cases q
          · exact .inr h
    · rename_i hk
      refine cellsFrom_has ?_
      rcases h with h | h
      · exact .inl h
      · rcases List.mem_cons.mp h with h | h
        · cases h; exact absurd rfl hk
        · exact .inr h

theorem cellsFrom_nodup : ∀ {names : List (Str × NameKind)} {k : Nat} {acc : List (Str × Addr)}, (names.map (·.1)).Nodup → (acc.map (·.1)).Nodup → (∀ x ∈ acc.map (·.1), x ∉ names.map (·.1)) → ((cellsFrom k names acc).map (·.1)).Nodup
  | [], _, _, _, h, _ => h
  | (y, kd) :: r, k, acc, hn, ha, hd => by
    rw [List.map_cons, List.nodup_cons] at hn
    unfold cellsFrom
    split
    · refine cellsFrom_nodup hn.2 ?_ fun x hx => ?_
      · rw [List.map_cons, List.nodup_cons]
        exact ⟨fun q => hd y q (by simp), ha⟩
      · rw [List.map_cons] at hx
        rcases List.mem_cons.mp hx with rfl | hx
        · exact hn.1
        · exact fun q => hd x hx (by simp [q])
    · exact cellsFrom_nodup hn.2 ha fun x hx q => hd x hx (by simp [q])

/- where the arguments lie -/
theorem arg_at {sc : Scope} {ns : List Str} : ∀ {ps : List Nat} {vs : List V} {ws : List Value}, parOk sc ns ps = true → VsRel μ n h vs ws → vs.length = ps.length → ∀ {i : Nat} {v : V}, argLoc ps vs i = some v →
    ∃ x w k, (x, w) ∈ ns.zip ws ∧ VRel μ n h v w ∧ idxOf x sc.names 0 = some (i, k) ∧ (k = .local ∨ k = .cell) := by
  induction ns with
  | nil =>
    intro ps vs ws hp r hl i v e
    rw [emp hp] at e
    exact no_some e
  | cons x ns ih =>
    intro ps vs ws hp r hl i u e
    cases ps with
    | nil => exact no_true hp
    | cons p ps => cases vs with
      | nil => exact nomatch hl
      | cons v vs =>
        refine band2 hp fun h1 h2 => cons_rel r fun w ws rv rr => ?_
        by_cases hi : i = p
        · obtain ⟨k, h3, h4⟩ := ixLC_eq h1
          subst hi
          have e' : some v = some u := (if_pos rfl).symm.trans (show (if i = i then some v else argLoc ps vs i) = some u from e)
          exact ⟨x, w, k, .head _, sinj e' ▸ rv, h3, h4⟩
        · obtain ⟨y, w', k, z1, z2⟩ := ih h2 rr (Nat.succ.inj hl) ((if_neg hi).symm.trans (show (if i = p then some v else argLoc ps vs i) = some u from e))
          exact ⟨y, w', k, .tail _ z1, z2⟩

theorem par_kinds {sc : Scope} {ns : List Str} : ∀ {ps : List Nat}, parOk sc ns ps = true → ns.length = ps.length ∧ ∀ x ∈ ns, ∃ i k, idxOf x sc.names 0 = some (i, k) ∧ (k = .local ∨ k = .cell) := by
  induction ns with
  | nil => intro ps hp; rw [emp hp]; exact ⟨rfl, fun ζ h => nomatch h⟩
  | cons x ns ih =>
    intro ps hp
    cases ps with
    | nil => exact no_true hp
    | cons p ps => exact band2 hp fun h1 h2 => ⟨congrArg (· + 1) (ih h2).1, fun y hy => (List.mem_cons.mp hy).elim (fun e => e ▸ let ⟨k, h⟩ := ixLC_eq h1; ⟨p, k, h⟩) ((ih h2).2 y)⟩

theorem zip_keys {α : Type} : ∀ {ns : List Str} {vs : List α}, vs.length = ns.length → (ns.zip vs).map (·.1) = ns
  | [], _, _ => by simp
  | x :: r, [], e => by cases e
  | x :: r, v :: vs, e => by rw [List.zip_cons_cons, List.map_cons, zip_keys (by simpa using e)]

theorem fn_raw {id : Nat} {f : FDef} {fd : FuncData} {vs' : List Value} {RR : Result → Shared → Prop} (C : COk c) (hfd : fdOf c.K (c.fa id) = some fd) (hck : fnCheck c.K fd f.pars = true) (hcomp : chkSs c.T f.body fd.scope (stmtsOf fd) = true) (hd : A.depth < recursionLimit) (X0 : c.K.In s.heap) (hlim : s.heap.NoLimit)
    (hvl : vs'.length = (fd.params.args.map (·.arg)).length)
    (k : ∀ env s₁ body, env.scope = fd.scope → fd.scope.kind = .function → (fd.scope.names.map (·.1)).Nodup → (((fd.params.args.map (·.arg)).zip vs').map (·.1)).Nodup → chkSs c.T f.body env.scope body = true →
      env.globals = mainGlobals → env.builtins = builtinsNs → env.frame = some env.locals → env.locals = s.heap.objs.size → env.cells = cellsFrom (s.heap.objs.size + 1) fd.scope.names [] → InCallC s env.locals (bindL env.kindOf ((fd.params.args.map (·.arg)).zip vs') fun ζ => none) env.cells (bindC env.kindOf ((fd.params.args.map (·.arg)).zip vs') fun ζ => none) s₁ →
      wpAny c.M (A.deeper env) (execs body env) (fun fl s' => RR (.ok (.ret (match fl with | .ret v => v | _ => .none))) s')
        (fun e s' => wpAny c.M (A.deeper env) (leaving env e) (fun ζ s'' => RR (.error e) s'') (fun e' s'' => RR (.error e') s'') s') s₁) :
    codeAny c.M A (.call (.ref (c.fa id)) ⟨vs', []⟩) RR s := by
  refine fdOf_out hfd fun o hl hdt => ?_
  have c2 := emp (all_at hck 1 rfl)
  have c10 : (fd.params.args.map (·.arg)).Nodup := ctrue (all_at hck 9 rfl)
  have c12 : fd.scope.kind = .function := beqt (all_at hck 11 rfl)
  have c15 : (fd.scope.names.map (·.1)).Nodup := ctrue (all_at hck 14 rfl)
  obtain ⟨hpl, hpk⟩ := par_kinds (all_at hck 16 rfl)
  have hbind : BindsTo s fd ⟨vs', []⟩ ((fd.params.args.map (·.arg)).zip vs') := by
    have bs := fun r => bind_simple (r := r) (s := s) (emp (all_at hck 5 rfl)) (emp (all_at hck 6 rfl)) (Option.isNone_iff_eq_none.mp (all_at hck 7 rfl)) (Option.isNone_iff_eq_none.mp (all_at hck 8 rfl)) c10 hvl
    refine (Bool.or_eq_true_iff.mp (all_at hck 10 rfl)).elim (fun h => ?_) fun h => wRef_inv h fun T hT h => oany h fun o hT2 h => dSeq_inv h fun xs k h3 ζ => ?_
    · exact bs none fun M A E Q hq => by rw [beqt h]; exact wpAny_bind (wpAny_pure (wpAny_pure hq))
    · exact bs (some xs) fun M A E Q hq => by rw [hT]; exact wpAny_seqItems (X0 _ _ hT2) h3 hq
  refine codeAny_call_function hd (X0 _ _ hl) hdt (bnot_of (all_at hck 12 rfl)) (bnot_of (all_at hck 13 rfl)) (stmts_of (all_at hck 0 rfl)) (codeRec_of X0 (all_at hck 4 rfl)) (hbind _ _ _ _ ?_)
  rw [c2]
  refine wpAny_newFunctionEnv_cells c12 (fun x hx => ?_) fun env he s₁ Y => ?_
  · obtain ⟨i, k, hi, hk⟩ := hpk x.1 (List.of_mem_zip (a := x.1) (b := x.2) hx).1
    have g := (idxOf_get hi).2
    rw [Nat.sub_zero] at g
    have hlk := lookup_of_get c15 g
    rcases hk with rfl | rfl
    · exact .inl hlk
    · exact .inr ⟨hlk, cellsFrom_has (.inr (List.mem_of_getElem? g))⟩
  · subst he
    exact ⟨hlim.keeps Y.toInCall.keep, codeAny_func (k _ s₁ _ rfl c12 c15 (by rw [zip_keys hvl]; exact c10) hcomp (ctrue (all_at hck 2 rfl)) (ctrue (all_at hck 3 rfl)) rfl rfl rfl Y)⟩
/- a call opens an activation -/
theorem fn_open {id : Nat} {f : FDef} {vs : List V} {vs' : List Value} {RR : Result → Shared → Prop} (C : COk c) (hok : FnOk c.K c.T (c.fa id) f) (H : RoomF A (D + 1)) (R : Rel c.toCx μ σ s) (r : VsRel μ σ.len s.heap vs vs') (hn : vs.length = f.pars.length)
    (k : ∀ env s₁ body, Here c env (A.deeper env) D μ σ s₁ (argLoc f.pars vs) → env.frame = some env.locals → chkSs c.T f.body env.scope body = true → (∀ b o, s.heap.get? b = some o → s₁.heap.get? b = some o) → (∀ a, Own env a → s.heap.get? a = none) →
      wpAny c.M (A.deeper env) (execs body env) (fun fl s' => RR (.ok (.ret (match fl with | .ret v => v | _ => .none))) s')
        (fun e s' => wpAny c.M (A.deeper env) (leaving env e) (fun ζ s'' => RR (.error e) s'') (fun e' s'' => RR (.error e') s'') s') s₁) :
    codeAny c.M A (.call (.ref (c.fa id)) ⟨vs', []⟩) RR s := by
  obtain ⟨fd, hfd, hck, hcomp⟩ := hok
  have c10 : (fd.params.args.map (·.arg)).Nodup := ctrue (all_at hck 9 rfl)
  have c16 := all_at hck 15 rfl
  have c17 := all_at hck 16 rfl
  have hvl : vs'.length = (fd.params.args.map (·.arg)).length := by rw [r.length, hn, (par_kinds c17).1]
  refine fn_raw C hfd hck hcomp (Nat.lt_of_le_of_lt (Nat.le_trans (Nat.le_add_right _ _) (Nat.le_add_right _ _)) H.depth) (C.K.keeps R.keep) (C.lim.keeps R.keep) hvl fun env s₁ body e1 c12 c15 znd hcb e3 e4 e6 e2 e5 Y => ?_
  have get_of : ∀ {x : Str} {i : Nat} {k : NameKind}, idxOf x fd.scope.names 0 = some (i, k) → fd.scope.names[i]? = some (x, k) ∧ fd.scope.names.lookup x = some k := fun e => by
    have g := (idxOf_get e).2
    rw [Nat.sub_zero] at g
    exact ⟨g, lookup_of_get c15 g⟩
  have hkf : ∀ x, env.kindOf x = fd.scope.names.lookup x := fun x => by unfold Env.kindOf; rw [e1]
  obtain ⟨h1, tk1, hs1⟩ := Y.toInCall.same
  subst hs1
  have kp : ∀ b o, s.heap.get? b = some o → h1.get? b = some o := Y.toInCall.keep
  have nL : s.heap.get? env.locals = none := by rw [e2]; exact none_size
  have nC : ∀ x a, (x, a) ∈ env.cells → s.heap.get? a = none := fun x a hx => Heap.get?_none_of_le (Nat.le_of_lt (by have := Y.above x a hx; rw [e2] at this; exact this))
  have nB : ∀ {a : Addr}, s.heap.get? a = none → c.B.get? a = none := fun {a} hn => by
    cases e : c.B.get? a with
    | none => rfl
    | some o => rw [R.keep _ _ e] at hn; cases hn
  have R₁ : Rel c.toCx μ σ { s with heap := h1, toks := tk1 } := R.grow kp
  have un : ∀ {a : Addr}, s.heap.get? a = none → ∀ j, Used σ j → μ j ≠ a := fun {a} hn j u e => by
    obtain ⟨ob, e', _⟩ := R.slot u
    rw [e, hn] at e'; cases e'
  have O : EnvOk c env := ⟨by rw [e1]; exact c12, e3, e4, by rw [e1]; exact c15, Y.apart, fun x a hx => Nat.ne_of_gt (Y.above x a hx), nB nL, fun x a hx => nB (nC x a hx)⟩
  have tkk : TKeep s.heap h1 := TKeep.of_keeps kp
  have L : LRel env (argLoc f.pars vs) μ σ h1 := by
    refine ⟨⟨_, Y.toInCall.ns, fun i x v g hv => ?_⟩, fun i x k g hk => ?_, un nL, fun x a hx => un (nC x a hx), fun x a hx => ?_⟩
    · obtain ⟨y, w, k, z1, z2, z3, z4⟩ := arg_at c17 r hn hv
      obtain ⟨g', lk⟩ := get_of z3
      rw [e1, g'] at g
      cases g
      exact ⟨w, bindL_get znd (by rw [hkf]; exact lk) z1, z2.mono (Nat.le_refl _) (fun ζ ζ => rfl) tkk⟩
    · rw [e1] at g
      have hcell : k = .cell := by
        rcases hk with rfl | rfl
        · rfl
        · exact no_true (List.all_eq_true.mp c16 _ (List.mem_of_getElem? g))
      subst hcell
      obtain ⟨a, ha⟩ := Option.isSome_iff_exists.mp (cellsFrom_has (k := s.heap.objs.size + 1) (acc := []) (.inr (List.mem_of_getElem? g)))
      rw [← e5] at ha
      refine ⟨a, _, ha, Y.cell x a ha, fun v hv => ?_⟩
      obtain ⟨y, w, k, z1, z2, z3, z4⟩ := arg_at c17 r hn hv
      obtain ⟨g', lk⟩ := get_of z3
      rw [g'] at g
      cases g
      exact ⟨w, bindC_get znd (by rw [hkf, lk]; simp) z1, z2.mono (Nat.le_refl _) (fun ζ ζ => rfl) tkk⟩
    · have nd : (env.cells.map (·.1)).Nodup := by rw [e5]; exact cellsFrom_nodup c15 List.nodup_nil fun ζ h => by cases h
      exact ⟨_, Y.cell x a (lookup_of_mem hx nd)⟩
  have H' : Room (A.deeper env) D := ⟨H.handled, by show A.depth + 1 + 5 * D + 10 < _; have := H.depth; omega, by show A.units + 3 + 60 * D + 80 < _; have := H.units; omega⟩
  refine k env _ body ⟨O, H', R₁, L⟩ e6 hcb kp ?_
  rintro a (rfl | ⟨y, hy⟩)
  · exact nL
  · exact nC y a hy

/- a function of the table that does not try meets its text -/
theorem fn_sim {id : Nat} {f : FDef} (C : COk c) (hok : FnOk c.K c.T (c.fa id) f) (hT : trySs f.body = false) (pb : PSs c Γ D f.body) : SimF c (D + 1) (.ref (c.fa id)) (runFn Γ (some f)) := by
  intro A μ σ s vs vs' Q H R r q
  obtain ⟨hn, q⟩ := q
  refine fn_open C hok H R r hn fun env s₁ body X hf hc kp hown => ?_
  refine wpAny_mono (pb body _ hc env (A.deeper env) μ σ s₁ _ _ _ rfl (fun z => by rw [hT] at z; cases z) X q fun e s' z => z.elim1 fun ζ ζ ζ f => f) (fun fl s' z => ?_) fun ζ ζ z => z
  obtain ⟨μ₂, σ₂, ℓ₂, R₂, S₂, L₂, z⟩ := z
  have S₃ : Step noP μ σ s.heap μ₂ σ₂ s'.heap := S₂.drop kp hown
  rcases z with ⟨rfl, q₂⟩ | ⟨v, v', rfl, r₂, q₂⟩
  · exact ⟨μ₂, σ₂, .none, q₂, R₂, S₃, rfl⟩
  · exact ⟨μ₂, σ₂, v, q₂, R₂, S₃, r₂⟩

/- a function of the table that may try, at the bottom -/
theorem fn_simT {id : Nat} {f : FDef} {vs : List V} {vs' : List Value} {Q : V → St → Prop} (C : COk c) (hok : FnOk c.K c.T (c.fa id) f) (pb : PSs c Γ D f.body) (H : RoomF A (D + 1)) (hA : A.frames = some []) (R : Rel c.toCx μ σ s) (r : VsRel μ σ.len s.heap vs vs')
    (q : runFn Γ (some f) vs σ Q (fun ζ ζ => False)) : codeAny c.M A (.call (.ref (c.fa id)) ⟨vs', []⟩) (fun r s' => match r with | .ok (.ret v) => PostE c.toCx μ σ s.heap Q v s' | .ok _ => False | .error _ => False) s := by
  obtain ⟨hn, q⟩ := q
  refine fn_open C hok H R r hn fun env s₁ body X hf hc kp hown => ?_
  refine wpAny_mono (pb body _ hc env (A.deeper env) μ σ s₁ _ _ _ rfl (fun ζ => ⟨by show A.frames.map _ = _; rw [hA]; rfl, hf⟩) X q fun e s' z => z.elim1 fun ζ ζ ζ f => f) (fun fl s' z => ?_) fun ζ ζ z => z
  obtain ⟨μ₂, σ₂, ℓ₂, R₂, S₂, L₂, z⟩ := z
  have S₃ : Step noP μ σ s.heap μ₂ σ₂ s'.heap := S₂.drop kp hown
  rcases z with ⟨rfl, q₂⟩ | ⟨v, v', rfl, r₂, q₂⟩
  · exact ⟨μ₂, σ₂, .none, q₂, R₂, S₃, rfl⟩
  · exact ⟨μ₂, σ₂, v, q₂, R₂, S₃, r₂⟩

theorem SlotsAt.trans {a : Addr} {h₂ : Heap} (x : SlotsAt a h h') (y : SlotsAt a h' h₂) : SlotsAt a h h₂ := fun o e => by
  obtain ⟨sl, e1⟩ := x o e
  obtain ⟨sl2, e2⟩ := y _ e1
  exact ⟨sl2, e2⟩

/- a function of the table that may raise, called from the one activation there is -/
theorem fn_simX {id : Nat} {f : FDef} (C : COk c) (LO : LeaveOp c) (hok : FnOk c.K c.T (c.fa id) f) (hT : trySs f.body = false) (pb : PSs c Γ D f.body) : SimX c (D + 1) (.ref (c.fa id)) (runFn Γ (some f)) := by
  intro A envL ℓL μ σ s vs vs' Q X H So hkL hBL LL R r q
  obtain ⟨hn, q⟩ := q
  refine fn_open C hok H R r hn fun env s₁ body X₁ hf hc kp hown => ?_
  obtain ⟨m, hm, _⟩ := LL.ns
  have hne : ¬ Own env envL.locals := fun o => by
    have := hown _ o
    obtain ⟨ob, _, _, ho, _⟩ := hm
    rw [this] at ho; cases ho
  refine wpAny_mono (pb body _ hc env (A.deeper env) μ σ s₁ _ _ _ rfl (fun z => by rw [hT] at z; cases z) X₁ q fun e s' z => ?_) (fun fl s' z => ?_) fun ζ ζ z => z
  · obtain ⟨μ₂, σ₂, ℓ₂, b, x, q₂, R₂, S₂, L₂, rfl, z⟩ := z
    have un : ∀ j, Used σ₂ j → μ₂ j ≠ envL.locals := fun j u e => by
      by_cases hj : Used σ j
      · rw [S₂.same j hj] at e; exact LL.offL j hj e
      · have := S₂.fresh j u hj
        obtain ⟨ob, _, _, ho, _⟩ := hm
        rw [e, kp _ _ ho] at this; cases this
    have keepL : ∀ o, s.heap.get? envL.locals = some o → s'.heap.get? envL.locals = some o := fun o e => S₂.keep _ _ (kp _ _ e) LL.offL hne
    refine LO (by show A.frames.map _ = _; rw [So.frames]; rfl) X₁.O hf hkL So.frame ⟨m, hm.at' keepL⟩ un hBL R₂ L₂ z fun s'' R₃ S₃ sl z₃ => ?_
    have S₄ : Step (fun a => Own env a ∨ a = envL.locals) μ σ s₁.heap μ₂ σ₂ s''.heap := (S₂.weaken fun ζ p => .inl p).trans S₃
    refine ⟨μ₂, σ₂, b, x, q₂, R₃, S₄.drop2 kp fun a p => p.elim (fun o => .inl (hown a o)) .inr, fun o e => sl o (keepL o e), rfl, z₃.mono fun xs z => ?_⟩
    obtain ⟨T, ot, ts, z1, z2, z4⟩ := z
    refine ⟨T, ot, ts, z1, ?_, z4⟩
    cases q : s.heap.get? T with
    | none => rfl
    | some o =>
      obtain ⟨o', e'⟩ := S₂.live _ _ (kp _ _ q)
      rw [z2] at e'; cases e'
  · obtain ⟨μ₂, σ₂, ℓ₂, R₂, S₂, L₂, z⟩ := z
    have S₃ : Step noP μ σ s.heap μ₂ σ₂ s'.heap := S₂.drop kp hown
    rcases z with ⟨rfl, q₂⟩ | ⟨v, v', rfl, r₂, q₂⟩
    · exact ⟨μ₂, σ₂, .none, q₂, R₂, S₃, rfl⟩
    · exact ⟨μ₂, σ₂, v, q₂, R₂, S₃, r₂⟩
end
end Mine.Internal
end
section
open PySem PySem.W PySem.Calls PyProof.Rows
set_option maxRecDepth 100000
namespace Mine.Internal

/- what holds of the program's start, once and for all -/
structure Stat (c : Cy) (tab : Nat → Option FDef) : Prop where
  C : COk c
  F : FOk c
  at_ : c.T.at_ = atNames
  dbg : ∀ x g, globOf c.T x = some g → (x == ("__debug__" : Str)) = false
  fns : ∀ x f, globOf c.T x = some (.fn f) → (x == ("isinstance" : Str)) = true ∨ (fnVal f).isSome = true ∨ ∃ k, f = .usr k
  bi : ∀ x f v, globOf c.T x = some (.fn f) → fnVal f = some v → c.mg x = none ∧ c.mb x = some v
  isi : c.mg "isinstance" = none ∧ c.mb "isinstance" = some (.builtin "isinstance")
  tys : ∀ x ∈ (["int", "str", "tuple", "bool"] : List String), c.mg x = none ∧ c.mb x = some (.type x)
  usr : ∀ x k, globOf c.T x = some (.fn (.usr k)) → c.mg x = some (.ref (c.fa k)) ∧ keepIn c.K (.ref (c.fa k)) = true
  cls : ∀ x k, globOf c.T x = some (.cls k) → c.mg x = some (.ref (c.ca k)) ∧ keepIn c.K (.ref (c.ca k)) = true
  init : ∀ x k, globOf c.T x = some (.cls k) → k ≠ 6 → makesIn c.K (c.ca k) = true ∧ findIn c.K (.ref (c.ca k)) "__init__" = some (some (.ref (c.fa (initId k)))) ∧ typeIn c.K (.ref (c.fa (initId k))) = some (.type "function")
  base : ∀ x k, globOf c.T x = some (.cls k) → specialIn c.K (.ref (c.ca k)) "__getattribute__" = some (some (.builtin "type.__getattribute__")) ∧ readsIn c.K (c.ca k) (.type "type") = true ∧
    findCls c.K (.ref (c.ca k)) (.type "type") "__init__" = some (.val (.ref (c.fa (initId k)))) ∧ keepIn c.K (.ref (c.fa (initId k))) = true
  meth : ∀ cl n, methOk cl n = true → n < 59 ∧ findIn c.K (.ref (c.ca cl)) "__getattribute__" = some (some (.builtin "object.__getattribute__")) ∧ findIn c.K (.ref (c.ca cl)) "__getattr__" = some none ∧
    findIn c.K (.ref (c.ca cl)) (atName n) = some (some (.ref (c.fa (methId cl n)))) ∧ typeIn c.K (.ref (c.fa (methId cl n))) = some (.type "function") ∧ keepIn c.K (.ref (c.fa (methId cl n))) = true
  fn : ∀ id f, tab id = some f → FnOk c.K c.T (c.fa id) f ∧ trySs f.body = false

variable {c : Cy} {tab : Nat → Option FDef} {srt : List Row3 → List Row3}

theorem Stat.setUp (S : Stat c tab) {Γ : Env'} {D : Nat} (h : ∀ id, SimF c D (.ref (c.fa id)) (Γ.fn id)) : SetUp c Γ D where
  C := S.C
  F := S.F
  at_ := S.at_
  dbg := S.dbg
  fns := S.fns
  bi := S.bi
  isi := S.isi
  tys := S.tys
  usr := S.usr
  cls := S.cls
  sim := h
  init := S.init
  base := S.base
  meth := S.meth

noncomputable def TryThm (c : Cy) : Prop := ∀ (Γ : Env') (D : Nat), SetUp c Γ D → SortOp c D Γ.srt → ExcOp c D → (∀ id, SimX c D (.ref (c.fa id)) (Γ.fn id)) → TryOp c Γ D

structure Ops (c : Cy) (srt : List Row3 → List Row3) : Prop where
  sort : ∀ D, SortOp c D srt
  exc : ∀ D, ExcOp c D
  raise : ∀ D, RaiseOp c D
  leave : LeaveOp c
  try_ : TryThm c

theorem srt_of (D : Nat) : (Γof tab srt D).srt = srt := by cases D <;> rfl

theorem all_sim (S : Stat c tab) (O : Ops c srt) : ∀ D, (∀ id, SimF c D (.ref (c.fa id)) ((Γof tab srt D).fn id)) ∧ ∀ id, SimX c D (.ref (c.fa id)) ((Γof tab srt D).fn id)
  | 0 => ⟨fun ζ ζ ζ ζ ζ ζ ζ ζ ζ ζ ζ q => q.elim, fun id => by intro A env l μ σ s vs vs' Q X _ _ _ _ _ _ _ q; exact q.elim⟩
  | D + 1 => by
    obtain ⟨h1, h2⟩ := all_sim S O D
    have U := S.setUp h1
    have SO : SortOp c D (Γof tab srt D).srt := by rw [srt_of]; exact O.sort D
    have TO := O.try_ _ D U SO (O.exc D) h2
    have all := allISs U SO (O.exc D) (O.raise D) TO
    refine ⟨fun id => ?_, fun id => ?_⟩
    · show SimF c (D + 1) _ (runFn (Γof tab srt D) (tab id))
      cases e : tab id with
      | none => intro _ _ _ _ _ _ _ _ _ _ q; exact q.elim
      | some f => exact fn_sim S.C (S.fn id f e).1 (S.fn id f e).2 (all f.body)
    · show SimX c (D + 1) _ (runFn (Γof tab srt D) (tab id))
      cases e : tab id with
      | none => intro A env l μ σ s vs vs' Q X _ _ _ _ _ _ _ q; exact q.elim
      | some f => exact fn_simX S.C O.leave (S.fn id f e).1 (S.fn id f e).2 (all f.body)

/- the law's own function, at the bottom -/
theorem law_sim (S : Stat c tab) (O : Ops c srt) {A : Around} {D id : Nat} {f : FDef} {μ : Nat → Addr} {σ : St} {s : Shared} {vs : List V} {vs' : List Value} {Q : V → St → Prop} (hok : FnOk c.K c.T (c.fa id) f) (H : RoomF A (D + 1)) (hA : A.frames = some []) (R : Rel c.toCx μ σ s) (r : VsRel μ σ.len s.heap vs vs')
    (q : runFn (Γof tab srt D) (some f) vs σ Q (fun ζ ζ => False)) : codeAny c.M A (.call (.ref (c.fa id)) ⟨vs', []⟩) (fun r s' => match r with | .ok (.ret v) => PostE c.toCx μ σ s.heap Q v s' | .ok _ => False | .error _ => False) s := by
  obtain ⟨h1, h2⟩ := all_sim S O D
  have U := S.setUp h1
  have SO : SortOp c D (Γof tab srt D).srt := by rw [srt_of]; exact O.sort D
  exact fn_simT S.C hok (allISs U SO (O.exc D) (O.raise D) (O.try_ _ D U SO (O.exc D) h2) f.body) H hA R r q
end Mine.Internal
end
section
open PySem PySem.W PySem.Calls PyProof.Rows Builtin Builtin.ObjectAttr
set_option maxRecDepth 100000
namespace Mine.Internal

section
variable {prog : Program} {w : World} {A : Around} {E : Value → Shared → Prop} {h : Heap} {g : Array GenState} {d : Drawn} {t : Nat} {os : OsState}
variable {nm q : Str} {C N : Addr} {bs bm bmB : List Value} {hdct : Bool} {sn : List Str} {sub : List Value} {ab : Bool} {col : Option Bool} {dd : Option Addr} {k0 k1 k2 k3 k5 : Option Value} {B newId initId : String}

/- an exception class of ours with its own __init__ and own classes above it: the maker -/
theorem exc_maker (F : ExcBaseFacts B newId initId bmB) (T : OwnTail h bmB bm) {mN : Str → Option Value} {rest : List Value} {fI : Addr} {oI : Obj} {Q : Fin → Shared → Prop}
    (hC : h.get? C = some (excClassObj nm q C N bs bm hdct sn sub ab col dd k0 k1 k2 k3 k5 newId)) (hn : h.Ns N mN) (hi : mN "__init__" = some (.ref fI)) (hfI : h.get? fI = some oI) (hfc : oI.cls = .type "function")
    (hq : ∀ h' e, Heap.MadeExcOf h h' e (.ref C) rest → wpAny (model prog w) A (call (.ref fI) (.ref e :: rest)) (fun r s' => r = .none ∧ Q (.done (.ret (.ref e))) s') E ⟨h', g, d, t, os⟩) (hrest : rest.length ≤ sizeLine) :
    wpAny (model prog w) A (Builtin.«type.__call__» ⟨.ref C :: rest, []⟩) Q E ⟨h, g, d, t, os⟩ := by
  repeat (first | with_reducible refine wpAny_loadPart_at hC ?_ | with_reducible refine wpAny_madeBy_exc hC ?_ | wp_step)
  refine codeAny_call_builtin_code (Code.quiet_builtin _ F.quiet) (wpAny_check_new_subT F T hC (codeAny_exc_new_subT F T hC ?_ hrest))
  have kp : ∀ b o, h.get? b = some o → ((h.push { cls := .type "tuple", data := .seq rest.toArray }).push { cls := .ref C, data := .fields #[.ref h.objs.size, .none, .none, .none, .bool false, .none] }).get? b = some o :=
    fun b o e => Heap.get?_push_of_some _ (Heap.get?_push_of_some _ e)
  have hx : ((h.push { cls := .type "tuple", data := .seq rest.toArray }).push { cls := .ref C, data := .fields #[.ref h.objs.size, .none, .none, .none, .bool false, .none] }).get? (h.objs.size + 1) = some
      { cls := .ref C, data := .fields #[.ref h.objs.size, .none, .none, .none, .bool false, .none] } := by heap_get
  have hself : (Value.ref C :: bm).contains (.ref C) = true := by simp
  have hC' := kp _ _ hC
  show wpAny _ _ _ _ _ _
  unfold isInstance
  repeat (first | with_reducible refine wpAny_loadPart_at hx ?_ | (with_reducible refine wpAny_isSubtype_exc hC' ?_; rw [hself]) | wp_step)
  show wpAny _ _ (typeLookup (.ref C) _) _ _ _
  refine wpAny_typeLookup_tail hC' (hn.keeps kp) (T.keeps kp) F.mroIs F.init.lookup ?_
  rw [hi]
  refine wpAny_holding (wpAny_bind ?_)
  unfold bindSpecial
  refine wpAny_bind (wpAny_typeOf (T := "function") ⟨_, kp _ _ hfI, hfc⟩ ?_)
  rw [if_pos (by decide)]
  refine wpAny_pure (wpAny_bind (wpAny_mono (hq _ (h.objs.size + 1) ⟨kp, Heap.get?_none_of_le (Nat.le_succ _), h.objs.size, hx, Heap.get?_none_of_le (Nat.le_refl _), Heap.get?_push_of_some _ (Heap.get?_push_at rfl rfl)⟩) (fun r s' hr => ?_) fun ζ ζ z => z))
  obtain ⟨rfl, hQ⟩ := hr
  wp_walk
  exact hQ

theorem exc_call (F : ExcBaseFacts B newId initId bmB) (T : OwnTail h bmB bm) {mN : Str → Option Value} {rest : List Value} {fI : Addr} {oI : Obj} {Q : Value → Shared → Prop}
    (hC : h.get? C = some (excClassObj nm q C N bs bm hdct sn sub ab col dd k0 k1 k2 k3 k5 newId)) (hn : h.Ns N mN) (hi : mN "__init__" = some (.ref fI)) (hfI : h.get? fI = some oI) (hfc : oI.cls = .type "function")
    (hq : ∀ h' e, Heap.MadeExcOf h h' e (.ref C) rest → wpAny (model prog w) (A.under (.builtin "type.__call__" ⟨.ref C :: rest, []⟩)) (call (.ref fI) (.ref e :: rest)) (fun r s' => r = .none ∧ Q (.ref e) s') E ⟨h', g, d, t, os⟩) (hrest : rest.length ≤ sizeLine) :
    wpAny (model prog w) A (call (.ref C) rest) Q E ⟨h, g, d, t, os⟩ := by
  have f1 := tc_lookup
  have f2 := tc_bind (.ref C)
  have hT : (⟨h, g, d, t, os⟩ : Shared).TypeIs (.ref C) "type" := ⟨_, hC, rfl⟩
  refine wpAny_call (codeAny_of_tree ?_)
  show wpAny _ _ (callAny (.ref C) _) _ _ _
  repeat (any_goals (first | assumption | with_reducible refine wpAny_loadPart_at hC ?_ | wp_step))
  refine ⟨rfl, codeAny_call_builtin_at (Code.quiet_builtin _ (by decide +kernel)) entry_typeCall (wpAny_check_type_call_sub hC (exc_maker F T hC hn hi hfI hfc (fun h' e hm => hq h' e hm) hrest))⟩
end
end Mine.Internal
end
section
open PySem PySem.W PySem.Calls PyProof.Rows Builtin Builtin.ObjectAttr
set_option maxRecDepth 100000
namespace Mine.Internal

section
variable {c : Cy} {μ μ' : Nat → Addr} {σ σ' : St} {s s' : Shared} {h h' h₁ : Heap} {env : Env} {A : Around} {ℓ ℓ' : Loc} {E : Value → Shared → Prop} {D : Nat} {Γ : Env'} {C C2 x : Addr}

/- the classes above ours, in order -/
noncomputable def excMro (K : Frag) (C C2 : Addr) : Bool := (clsIn K C).any fun cd => decide (cd.mro = [.ref C, .ref C2, .type "Exception", .type "BaseException", .type "object"]) && cd.hasDict
noncomputable def excSet (K : Frag) (C : Addr) (name : Str) : Bool := decide (findIn K (.ref C) "__setattr__" = some (some (.builtin "object.__setattr__"))) && decide (findIn K (.ref C) name = some none)

theorem exc_osa {m : Nat} {v : V} {v' : Value} {fs : Array Value} {tk0 : Tok} {RR : Result → Shared → Prop} (hm : m < 33) (e1 : excMro c.K C C2 = true) (e2 : findIn c.K (.ref C) (atName m) = some none) (kh : c.K.In s.heap)
    (hx : s.heap.get? x = some { cls := .ref C, data := .fields fs })
    (k : ∀ h' tk d ds kk, (∀ b o, b ≠ x → s.heap.get? b = some o → h'.get? b = some o) → s.heap.get? d = none → h'.get? x = some { cls := .ref C, dict := some d, data := .fields fs } → h'.get? d = some (dobj ds kk) →
      (∀ μ n, VRel μ n h' v v' → FsRel c.toCx μ n h' [(m, v)] ds.toList) → RR (.ok (.ret .none)) { s with heap := h', toks := tk }) :
    codeAny c.M A (.call (.builtin "object.__setattr__") ⟨[.ref x, .str (atName m) tk0, v'], []⟩) RR s := by
  obtain ⟨cd, hc, e1⟩ := any_some e1
  simp only [Bool.and_eq_true, decide_eq_true_eq] at e1
  obtain ⟨em, ed⟩ := e1
  have I : InstAt s.heap x { cls := .ref C, data := .fields fs } C none := ⟨hx, rfl, rfl, trivial⟩
  have SF := PySem.F.store_object
  have hmro : Looks (model c.prog c.w) s.heap (mroOf (.ref C)) cd.mro := (looks_clsIn kh hc).andThen .now
  have sub : Looks (model c.prog c.w) s.heap (isInstance (.ref x) (.type "object")) true := I.type.andThen (looks_mroIn kh (by unfold mroIn; rw [hc, Option.bind_some, em]; rfl))
  refine codeAny_call_builtin SF.slot.plain SF.entry (@check_slot c.M _ _ s "object.__setattr__" "object" "__setattr__" (.ref x) [.str (atName m) tk0, v'] [] _ SF.kind SF.split sub (SF.args (.ref x) (.str (atName m) tk0) v') ?_)
  have L3 : Looks c.M s.heap (storeTaker? none) none := .now
  rw [osa_eq, refuse_eq]
  refine wpAny_bind (wpAny_bind (I.type.here (wpAny_bind (hmro.here ?_))))
  rw [em, refuseLoop_ref, refuseLoop_ref, PySem.F.store_Exception.passes]
  refine wpAny_pure (wpAny_bind (I.type.here (wpAny_bind ((looks_findIn kh e2).here (wpAny_bind (L3.here ?_))))))
  show wpAny _ _ (storeInOwnDict (.ref x) (.ref C) (.str (atName m) tk0) (atName m) v' false) _ _ _
  unfold storeInOwnDict
  refine wpAny_bind (wpAny_pure (wpAny_bind ?_))
  show wpAny _ _ (instanceDict x true) _ _ _
  unfold instanceDict
  refine wpAny_bind (wpAny_loadPart hx (wpAny_bind ((looks_clsIn kh hc).here ?_)))
  rw [ed]
  have hne : x ≠ s.heap.objs.size := Nat.ne_of_lt (Heap.lt_size hx)
  have hx1 := keep_push (h := s.heap) emptyDict x _ hx
  have hx2 := Heap.get?_update_self (fun o => { cls := o.cls, dict := some s.heap.objs.size, data := o.data, slots := o.slots }) hx1 rfl
  have hd2 : ((s.heap.push emptyDict).update x fun o => { cls := o.cls, dict := some s.heap.objs.size, data := o.data, slots := o.slots }).get? s.heap.objs.size = some emptyDict :=
    (Heap.get?_update_other _ _ hne).trans (Heap.get?_push_size _ rfl)
  show wpAny _ _ (do
      let d ← alloc emptyDict
      update x fun o => { cls := o.cls, dict := some d, data := o.data, slots := o.slots }
      dictMade (.ref C) x d) _ _ _
  refine wpAny_bind (wpAny_alloc (wpAny_bind (wpAny_update hx1 ?_)))
  refine wpAny_pure (a := some s.heap.objs.size) (wpAny_bind (wpAny_pure (wpAny_bind ?_)))
  unfold nsSet
  refine wpAny_bind (wpAny_bind (wpAny_askSetting (wpAny_pure (wpAny_bind (wpAny_mkText (wpAny_bind (wpAny_loadPart hd2 ?_)))))))
  dsimp only
  rw [aRefKeyMayBeTheName_at]
  rw [if_neg (by simp)]
  refine wpAny_updatePart hd2 ?_
  have D' := Heap.get?_update_self (Obj.putName (atName m) (PyData.keyHash c.w.params (atName m)) (.str (atName m) s.toks) v') hd2 rfl
  have D2 : Obj.putName (atName m) (PyData.keyHash c.w.params (atName m)) (.str (atName m) s.toks) v' emptyDict = dobj #[⟨PyData.keyHash c.w.params (atName m), .str (atName m) s.toks, v'⟩] (putN (atName m) [] 0) := putName_dict _ _ _ _ [] 0
  rw [D2] at D'
  refine wpAny_bind (wpAny_lookBehind D' (pastItsLine_dict (by show 1 ≤ _; decide)) (wpAny_pure ?_))
  refine k _ _ s.heap.objs.size _ _ (fun b o n e => ?_) none_size ?_ D' fun μ n r => ⟨_, [], _, rfl, rfl, rfl, hm, r, rfl⟩
  · have hb := Nat.ne_of_lt (Heap.lt_size e)
    exact (Heap.get?_update_other _ _ (Ne.symm hb)).trans ((Heap.get?_update_other _ _ (Ne.symm n)).trans (keep_push _ _ _ e))
  · exact (Heap.get?_update_other _ _ (Ne.symm hne)).trans hx2

theorem exc_setattr {m : Nat} {v : V} {v' : Value} {fs : Array Value} {K : Unit → Shared → Prop} (hm : m < 33) (e1 : excMro c.K C C2 = true) (e2 : excSet c.K C (atName m) = true) (kh : c.K.In s.heap)
    (hx : s.heap.get? x = some { cls := .ref C, data := .fields fs })
    (k : ∀ h' tk d ds kk, (∀ b o, b ≠ x → s.heap.get? b = some o → h'.get? b = some o) → s.heap.get? d = none → h'.get? x = some { cls := .ref C, dict := some d, data := .fields fs } → h'.get? d = some (dobj ds kk) →
      (∀ μ n, VRel μ n h' v v' → FsRel c.toCx μ n h' [(m, v)] ds.toList) → K () { s with heap := h', toks := tk }) :
    wpAny c.M A (setAttr (.ref x) (atName m) v') K E s := by
  simp only [excSet, Bool.and_eq_true, decide_eq_true_eq] at e2
  exact set_plain (od := none) kh ⟨hx, rfl, rfl, trivial⟩ e2.1 (exc_osa (s := { s with toks := s.toks + 1 }) hm e1 e2.2 kh hx k)
end
end Mine.Internal
end
section
open PySem PySem.W PySem.Calls PyProof.Rows Builtin Builtin.ObjectAttr
set_option maxRecDepth 100000
namespace Mine.Internal

/- what holds of our exception class at the start -/
inductive ExcObj (c : Cy) : Prop
  | mk (nm q N bs hdct sn sub ab col dd k0 k1 k2 k3 k5 C2 mN) (h0 : c.K.lookup (c.ca 6) = some (excClassObj nm q (c.ca 6) N bs [.ref C2, .type "Exception", .type "BaseException", .type "object"] hdct sn sub ab col dd k0 k1 k2 k3 k5 "Exception.__new__")) (h1 : c.B.Ns N mN) (h2 : mN "__init__" = some (.ref (c.fa 56))) (h3 : OwnTail c.B [.type "Exception", .type "BaseException", .type "object"] [.ref C2, .type "Exception", .type "BaseException", .type "object"]) (h4 : excMro c.K (c.ca 6) C2 = true)
structure XFacts (c : Cy) : Prop where
  obj : ExcObj c
  set_ : excSet c.K (c.ca 6) (atName 31) = true
  init : FnOk c.K c.T (c.fa 56) ⟨[0, 1], .cons (.setattr (.loc 0) 31 (.loc 1)) .nil⟩
  init2 : ∃ fd n0 n1, fdOf c.K (c.fa 56) = some fd ∧ fd.params.args.map (·.arg) = [n0, n1] ∧ idxOf n0 fd.scope.names 0 = some (0, .local) ∧ idxOf n1 fd.scope.names 0 = some (1, .local)
  initC : typeIn c.K (.ref (c.fa 56)) = some (.type "function")
  get_ : findIn c.K (.ref (c.ca 6)) "__getattribute__" = some (some (.builtin "BaseException.__getattribute__")) ∧ findIn c.K (.ref (c.ca 6)) "__getattr__" = some none ∧ hasDictIn c.K (c.ca 6) = true
  exm : exmOne c.K (.ref (c.ca 6)) (.ref (c.ca 6)) = some true
  mgx : c.mg "PrologError" = some (.ref (c.ca 6))

section
variable {c : Cy} {μ μ' : Nat → Addr} {σ σ' : St} {s s' : Shared} {h h' h₁ : Heap} {env : Env} {A : Around} {ℓ ℓ' : Loc} {E : Value → Shared → Prop} {D : Nat} {Γ : Env'} {C C2 x : Addr}

/- a local name is read -/
theorem read_local {env : Env} {o : Expr} {i : Nat} {m : Str → Option Value} {y : Str} {w : Value} {sc : Scope} {T : CT} {K : Value → Shared → Prop} (hc : chkE T (.loc i) sc o = true) (hs : env.scope = sc) (hk : sc.kind = .function) (hn : (sc.names.map (·.1)).Nodup)
    (hy : idxOf y sc.names 0 = some (i, .local)) (hns : s.heap.Ns env.locals m) (hm : m y = some w) (q : K w s) : wpAny c.M A (eval o env) K E s := by
  refine inv_loc hc fun z p k e0 h1 h2 h3 h4 => ?_
  subst e0
  have g1 := (idxOf_get h1).2
  have g2 := (idxOf_get hy).2
  rw [Nat.sub_zero] at g1 g2
  rw [g1] at g2
  cases g2
  exact wpAny_Name (wpAny_loadName_local (by rw [hs]; exact hk) (by unfold Env.kindOf; rw [hs]; exact lookup_of_get hn g1) hns hm q) h3

/- a call opens an activation; its arguments as they come -/
theorem exc_op (C0 : COk c) (at_ : c.T.at_ = atNames) (XF : XFacts c) : ∀ D, ExcOp c D := by
  intro D A μ σ s b v Q E H R r q
  obtain ⟨nm, qn, N, bs, hdct, sn, sub, ab, col, dd, k0, k1, k2, k3, k5, C2, mN, hl, hN, hi, T, hmro⟩ := XF.obj
  have X := C0.K.keeps R.keep
  have hty := XF.initC
  obtain ⟨fd, hfd, hck, hcomp⟩ := XF.init
  obtain ⟨fd', n0, n1, hfd', hns, hi0, hi1⟩ := XF.init2
  rw [hfd] at hfd'
  cases hfd'
  refine fdOf_out hfd fun oI hlf ζ => ?_
  have hcf : oI.cls = .type "function" := by
    unfold typeIn at hty
    simpa [hlf] using hty
  obtain ⟨hh, g, d, t, os⟩ := s
  refine exc_call PySem.F.excBase_Exception (T.keeps R.keep) (X _ _ hl) (hN.keeps R.keep) hi (X _ _ hlf) hcf (fun h' e hm => ?_) (by show 1 ≤ _; decide)
  have X' : c.K.In h' := X.keeps hm.keeps
  have Hf := H.make (c.ca 6) [v] []
  refine wpAny_call (fn_raw (s := ⟨h', g, d, t, os⟩) C0 hfd hck hcomp (by have := Hf.depth; omega) X' ((C0.lim.keeps R.keep).keeps hm.keeps) (by rw [hns]; rfl) fun env s₁ body es hkind hnd hznd hcb ζ ζ ζ ζ ζ Y => ?_)
  rw [hns] at Y hznd
  have kl : ∀ {x : Str} {i : Nat}, idxOf x fd.scope.names 0 = some (i, .local) → env.kindOf x = some .local := fun {x i} e => by
    have g := (idxOf_get e).2
    rw [Nat.sub_zero] at g
    unfold Env.kindOf
    rw [es]
    exact lookup_of_get hnd g
  have b0 : bindL env.kindOf (([n0, n1] : List Str).zip [Value.ref e, v]) (fun ζ => none) n0 = some (.ref e) := bindL_get hznd (kl hi0) (by simp)
  have b1 : bindL env.kindOf (([n0, n1] : List Str).zip [Value.ref e, v]) (fun ζ => none) n1 = some v := bindL_get hznd (kl hi1) (by simp)
  refine invs_cons hcb fun st rest eb hs1 hs2 => ?_
  rw [invs_nil hs2] at eb
  subst eb
  refine invs_setattr hs1 fun o nm' p v0 qq e0 z1 z2 z3 z4 => ?_
  subst e0
  rw [at_] at z2
  obtain ⟨rfl, _⟩ := attrIx_name z2
  have ee : exec (.Assign [.Attribute o (atName 31) p] v0 qq) env = (do standAt qq; let v ← eval v0 env; assign (.Attribute o (atName 31) p) env v; pure .next) := by
    have e1 : exec (.Assign [.Attribute o (atName 31) p] v0 qq) env = (do
        standAt qq
        if ← swapsWith v0 (some (.Attribute o (atName 31) p)) qq.line env then
          evalThenUse v0 env (assign (.Attribute o (atName 31) p) env)
          return .next
        let v ← eval v0 env
        assign (.Attribute o (atName 31) p) env v
        pure .next) := rfl
    rw [e1, no_swap z4]; rfl
  refine wpAny_execs_cons ?_
  rw [ee]
  obtain ⟨h1, tk1, hs1'⟩ := Y.toInCall.same
  subst hs1'
  have Ym := Y.toInCall.ns
  refine wpAny_bind (wpAny_standAt (wpAny_bind (read_local z3 rfl (es ▸ hkind) (es ▸ hnd) (es ▸ hi1) Ym b1 (wpAny_bind (kas_attr (read_local z1 rfl (es ▸ hkind) (es ▸ hnd) (es ▸ hi0) Ym b0 ?_))))))
  obtain ⟨kpm, ne, ta, hx, nt, ht⟩ := hm
  have kp := Y.toInCall.keep
  have nE : hh.get? e = none := ne
  refine exc_setattr (m := 31) (v := b) (by decide) hmro XF.set_ (X'.keeps kp) (kp _ _ hx) fun h2 tk2 dd2 ds kk k1 k2 k3 k4 k5 => wpAny_pure (wpAny_execs_nil ?_)
  have kall : ∀ b ob, hh.get? b = some ob → h2.get? b = some ob := fun b ob eb => k1 _ _ (fun q => by rw [q, nE] at eb; cases eb) (kp _ _ (kpm _ _ eb))
  have nd : hh.get? dd2 = none := by
    cases q : hh.get? dd2 with
    | none => rfl
    | some ob => rw [kp _ _ (kpm _ _ q)] at k2; cases k2
  have hne : e ≠ dd2 := fun q => by rw [← q, kp _ _ hx] at k2; cases k2
  have htk : h2.get? ta = some (tobj #[v] 0) := k1 _ _ (fun q => by
    have hz := hx
    rw [← q, ht] at hz
    cases hz) (kp _ _ ht)
  have r5 : VRel (ext μ σ.len e dd2) (σ.len + 1) h2 b v := VRel.mono (Nat.le_succ _) (fun i hi => ext_lt (by omega)) (TKeep.of_keeps kall) r
  have new : ORel c.toCx (ext μ σ.len e dd2) (σ.len + 1) h2 σ.len (.exc b) :=
    ⟨ta, v, ds, kk, by rw [ext_even, ext_odd]; exact k3, htk, by rw [ext_odd]; exact k4, k5 _ _ r5⟩
  obtain ⟨R', S'⟩ := R.add (o := .exc b) (a := e) (d := dd2) kall nE (fun ζ => ⟨nd, hne⟩) new (tk := tk2)
  exact ⟨rfl, _, _, _, q, R', S', by rw [St.len_add]; omega, by rw [ext_even]⟩
end
end Mine.Internal
end
section
open PySem PySem.W PySem.Calls PyProof.Rows Builtin Builtin.ObjectAttr
set_option maxRecDepth 100000
namespace Mine.Internal

section
variable {c : Cy} {μ μ' : Nat → Addr} {σ σ' : St} {s s' : Shared} {h h' h₁ : Heap} {env : Env} {A : Around} {ℓ ℓ' : Loc} {E : Value → Shared → Prop} {D : Nat} {Γ : Env'} {C C2 x : Addr}
variable {nm q : Str} {N : Addr} {bs bm : List Value} {hdct : Bool} {sn : List Str} {sub : List Value} {ab : Bool} {col : Option Bool} {dd : Option Addr} {k0 k1 k2 k3 k5 : Option Value} {newId : String}

theorem raise_made {M : Model} {x : Sem Value} {Q : Flow → Shared → Prop} (hbase : bm.contains (.type "BaseException") = true) (hh : A.handled = none)
    (h : wpAny M A x (fun v s₁ => ∃ e t od, v = .ref e ∧ s₁.heap.get? C = some (excClassObj nm q C N bs bm hdct sn sub ab col dd k0 k1 k2 k3 k5 newId) ∧
      s₁.heap.get? e = some { cls := .ref C, dict := od, data := .fields #[.ref t, .none, .none, .none, .bool false, .none] } ∧ E (.ref e) s₁) E s) :
    wpAny M A (raiseStmt env (some x) none) Q E s := by
  have hcB : (Value.ref C :: bm).contains (.type "BaseException") = true := by rw [List.contains_cons, hbase, Bool.or_true]
  unfold raiseStmt
  refine wpAny_bind (wpAny_mono h (fun v s₁ h₁ => ?_) fun ζ ζ x => x)
  obtain ⟨e, t, od, rfl, hC, he, hE⟩ := h₁
  obtain ⟨hp, g, d, tk, os⟩ := s₁
  repeat (first | with_reducible refine wpAny_loadPart_at he ?_ | with_reducible refine wpAny_loadPart_at hC ?_ | (with_reducible refine wpAny_isSubtype_exc hC ?_; rw [hcB]) | wp_step)
  exact wpAny_raiseNew_none hh hE

theorem raise_op (C0 : COk c) (XF : XFacts c) : ∀ D, RaiseOp c D := by
  intro D env A μ σ s ℓ x pos E Q X hw
  obtain ⟨nm, qn, N, bs, hdct, sn, sub, ab, col, dd, k0, k1, k2, k3, k5, C2, mN, hl, hN, hi, T, hmro⟩ := XF.obj
  rw [arm_exec_Raise]
  refine wpAny_bind (wpAny_standAt (raise_made (C := c.ca 6) (nm := nm) (q := qn) (N := N) (bs := bs) (bm := [.ref C2, .type "Exception", .type "BaseException", .type "object"]) (hdct := hdct) (sn := sn) (sub := sub) (ab := ab) (col := col) (dd := dd) (k0 := k0) (k1 := k1) (k2 := k2) (k3 := k3) (k5 := k5) (newId := "Exception.__new__") (by simp [List.contains_cons]) X.H.handled ?_))
  refine wpAny_bind (wpAny_mono hw (fun v s₁ h₁ => wpAny_bind (wpAny_standAt (wpAny_pure ?_))) fun ζ ζ z => z)
  obtain ⟨μ₁, σ₁, i, b, X₁, rfl, g, hE⟩ := h₁
  obtain ⟨t, a0, ds, k, q1, q2, q3, q4⟩ := X₁.R.obj _ _ g
  have K₁ := C0.K.keeps X₁.R.keep
  obtain ⟨R', S'⟩ := X₁.R.put g (o' := .exd) rfl (.inl rfl) ⟨rfl, fun ζ ζ => rfl⟩ ⟨_, _, q1, rfl, q3, rfl⟩ (tk := s₁.toks) (h' := s₁.heap)
  refine ⟨_, t, _, rfl, K₁ _ _ hl, q1, hE s₁ R' S' ⟨i, ?_, rfl, _, ds, k, q1, rfl, rfl, ⟨_, rfl, rfl, rfl⟩, q3, ?_⟩⟩
  · rw [St.get_put, if_pos rfl, if_pos (St.get_lt g)]
  · rw [St.len_put]; exact q4
end
end Mine.Internal
end
section
open PySem PySem.W PySem.Calls PyProof.Rows Builtin Builtin.ObjectAttr
set_option maxRecDepth 100000
namespace Mine.Internal

/- a frame has noted an exception: its slots, the exception's second field, a new entry -/
structure Noted (fs : List Addr) (e : Addr) (oe : Obj) (vs : Array Value) (fl : Value) (h h' : Heap) : Prop where
  keep : ∀ b o, b ≠ e → b ∉ fs → h.get? b = some o → h'.get? b = some o
  slots : ∀ b o, b ≠ e → h.get? b = some o → ∃ sl, h'.get? b = some { o with slots := sl }
  at_ : ∃ T ts, h.get? T = none ∧ h'.get? e = some { oe with data := .fields (vs.setIfInBounds 1 (.ref T)) } ∧ h'.get? T = some { cls := .type "traceback", data := .fields ts } ∧ ts[3]? = some fl

section
variable {M : Model} {A : Around} {E : Value → Shared → Prop} {s : Shared} {base : Heap}

theorem mapFields_eq {o : Obj} {vs : Array Value} (hd : o.data = .fields vs) (f : Array Value → Array Value) : Obj.mapFields f o = { o with data := .fields (f vs) } := by
  cases o with
  | mk a b d e => subst hd; rfl

theorem new_entry {env : Env} {outer : List Env} {L e : Addr} {oe : Obj} {vs : Array Value} {head : Value} {hadNext : Bool} {Q : Unit → Shared → Prop}
    (hfr : A.frames = some (env :: outer)) (hl : s.heap.FunFrames base (env :: outer)) (hf : env.frame = some L)
    (he : s.heap.get? e = some oe) (hd : oe.data = .fields vs) (hsz : 1 < vs.size)
    (h : ∀ h', Noted ((env :: outer).filterMap (·.frame)) e oe vs (rawInt L) s.heap h' → Q () { s with heap := h' }) :
    wpAny M A (do let a ← frameOf env; let pl ← entryPlaceOf L hadNext; let b ← EntryCells.newEntry head a .none (rawInt L) .none pl; setField (.ref e) 1 b) Q E s := by
  have hene : e ∉ (env :: outer).filterMap (·.frame) := fun hm => by
    obtain ⟨_, o, ho, hnf⟩ := hl.mem hm
    rw [he] at ho; injection ho with ho; subst ho; exact hnf vs hd
  refine wpAny_bind (wpAny_frameOf_fun hfr hl hf fun h₁ hs₁ => ?_)
  refine wpAny_bind (wpAny_entryPlaceOf fun pl hpl => ?_)
  unfold EntryCells.newEntry newFields
  refine wpAny_bind (wpAny_newObj_type ?_ (hpl.sizeOk5 _ _ _ _ _))
  have he₁ : h₁.get? e = some oe := (hs₁.2.1 e hene).trans he
  have he₂ := Heap.get?_push_of_some (h := h₁) { cls := .type "traceback", dict := none, data := .fields ([head, .ref L, .none, rawInt L, .none] ++ (if pl.isEmpty then List.replicate 6 Value.none else pl)).toArray } he₁
  refine wpAny_setField he₂ hd hsz (h _ ?_)
  have hTe : h₁.objs.size ≠ e := Nat.ne_of_gt (Heap.lt_size he₁)
  have hd₃ := Obj.data_mapFields hd (·.setIfInBounds 1 (Value.ref h₁.objs.size))
  have he₃ := Heap.get?_update_self (Obj.mapFields (·.setIfInBounds 1 (Value.ref h₁.objs.size))) he₂ (Obj.isFreed_of_fields hd₃)
  have hT₃ := (Heap.get?_update_other (h₁.push { cls := .type "traceback", dict := none, data := .fields ([head, .ref L, .none, rawInt L, .none] ++ (if pl.isEmpty then List.replicate 6 Value.none else pl)).toArray })
    (Obj.mapFields (·.setIfInBounds 1 (Value.ref h₁.objs.size))) (Ne.symm hTe)).trans (Heap.get?_push_size h₁ rfl)
  have keep : ∀ b o, b ≠ e → h₁.get? b = some o → ((h₁.push { cls := .type "traceback", dict := none, data := .fields ([head, .ref L, .none, rawInt L, .none] ++ (if pl.isEmpty then List.replicate 6 Value.none else pl)).toArray }).update e
      (Obj.mapFields (·.setIfInBounds 1 (Value.ref h₁.objs.size)))).get? b = some o := fun b o hbe hb => by
    rw [Heap.get?_update_other _ _ (Ne.symm hbe)]
    exact Heap.get?_push_of_some _ hb
  refine ⟨fun b o n m e => keep b o n ((hs₁.2.1 b m).trans e), fun b o n e => ?_, h₁.objs.size, _, ?_, ?_, hT₃, ?_⟩
  · obtain ⟨sl, hs⟩ := hs₁.2.2 b o e
    exact ⟨sl, keep b _ n hs⟩
  · rw [hs₁.1]; exact none_size
  · rw [mapFields_eq hd] at he₃; exact he₃
  · first | (simp; done) | (rcases hpl with rfl | ⟨_, _, _, _, _, _, _, rfl⟩ <;> simp)

/- the first frame notes it -/
theorem note_first {env : Env} {outer : List Env} {L e : Addr} {oe : Obj} {vs : Array Value} {Q : Unit → Shared → Prop}
    (hfr : A.frames = some (env :: outer)) (hl : s.heap.FunFrames base (env :: outer)) (hf : env.frame = some L)
    (he : s.heap.get? e = some oe) (hd : oe.data = .fields vs) (h1 : vs[1]? = some .none)
    (h : ∀ h', Noted ((env :: outer).filterMap (·.frame)) e oe vs (rawInt L) s.heap h' → Q () { s with heap := h' }) : wpAny M A (noteFrame (.ref e) env) Q E s := by
  unfold noteFrame
  simp only [hf]
  refine wpAny_bind (wpAny_field he hd h1 ?_)
  rw [if_neg (by decide)]
  exact new_entry hfr hl hf he hd (Array.getElem?_eq_some_iff.mp h1).1 h

/- the next frame notes it -/
theorem note_next {env : Env} {outer : List Env} {L e T : Addr} {oe oT : Obj} {vs ts : Array Value} {Q : Unit → Shared → Prop}
    (hfr : A.frames = some (env :: outer)) (hl : s.heap.FunFrames base (env :: outer)) (hf : env.frame = some L)
    (he : s.heap.get? e = some oe) (hd : oe.data = .fields vs) (h1 : vs[1]? = some (.ref T)) (hT : s.heap.get? T = some oT) (hdT : oT.data = .fields ts) (h3 : ts[3]? = some .none) (hTe : T ≠ e)
    (h : ∀ h' hm, (∀ b, b ≠ T → hm.get? b = s.heap.get? b) → (∃ o, hm.get? T = some o) → Noted ((env :: outer).filterMap (·.frame)) e oe vs (rawInt L) hm h' → Q () { s with heap := h' }) : wpAny M A (noteFrame (.ref e) env) Q E s := by
  unfold noteFrame
  simp only [hf]
  refine wpAny_bind (wpAny_field he hd h1 ?_)
  rw [if_pos (show (Value.ref T != Value.none) = true from by simp)]
  refine wpAny_bind (wpAny_field hT hdT h3 ?_)
  rw [if_neg (show ¬ ((Value.none == rawInt L) = true) from by simp [rawInt])]
  refine wpAny_bind (wpAny_setField hT hdT (Array.getElem?_eq_some_iff.mp h3).1 ?_)
  have other : ∀ b, b ≠ T → (s.heap.update T (Obj.mapFields (·.setIfInBounds 3 Value.none))).get? b = s.heap.get? b := fun b hb => Heap.get?_update_other _ _ (Ne.symm hb)
  have noRecord : ∀ b o, s.heap.get? b = some o → (∀ vs, o.data ≠ .fields vs) → b ≠ T := fun b o hb hnf q => by
    rw [q, hT] at hb; injection hb with hb; subst hb; exact hnf ts hdT
  refine new_entry (s := { s with heap := s.heap.update T (Obj.mapFields (·.setIfInBounds 3 Value.none)) }) hfr (hl.of_keeps fun b o hb hnf => ⟨o, (other b (noRecord b o hb hnf)).trans hb, rfl⟩) hf ((other e (Ne.symm hTe)).trans he) hd (Array.getElem?_eq_some_iff.mp h1).1 fun h' N => h h' _ other ?_ N
  exact ⟨_, Heap.get?_update_self _ hT (Obj.isFreed_of_fields (Obj.data_mapFields hdT _))⟩

/- it flies no more -/
theorem flight_off {e T : Addr} {oe oT : Obj} {vs ts : Array Value} {Q : Unit → Shared → Prop} (he : s.heap.get? e = some oe) (hd : oe.data = .fields vs) (h1 : vs[1]? = some (.ref T)) (hT : s.heap.get? T = some oT) (hdT : oT.data = .fields ts) (h3 : 3 < ts.size)
    (h : ∀ h', (∀ b, b ≠ T → h'.get? b = s.heap.get? b) → h'.get? T = some { oT with data := .fields (ts.setIfInBounds 3 .none) } → Q () { s with heap := h' }) : wpAny M A (setFlight (.ref e) none) Q E s := by
  unfold setFlight
  refine wpAny_bind (wpAny_field he hd h1 ?_)
  rw [if_pos (show (Value.ref T != Value.none) = true from by simp)]
  have z := Heap.get?_update_self (Obj.mapFields (·.setIfInBounds 3 ((none : Option Addr).elim Value.none fun f => rawInt f))) hT (Obj.isFreed_of_fields (Obj.data_mapFields hdT _))
  rw [mapFields_eq hdT] at z
  exact wpAny_setField hT hdT h3 (h _ (fun b hb => Heap.get?_update_other _ _ (Ne.symm hb)) z)
end
end Mine.Internal
end
section
open PySem PySem.W PySem.Calls PyProof.Rows Builtin Builtin.ObjectAttr
set_option maxRecDepth 100000
namespace Mine.Internal

section
variable {c : Cy} {μ μ' : Nat → Addr} {σ σ' : St} {s s' : Shared} {h h' h₁ : Heap} {env envL : Env} {A : Around} {ℓ ℓ' : Loc} {E : Value → Shared → Prop} {D : Nat} {Γ : Env'} {x : Addr} {P : Addr → Prop}

/- an exception's object turns, and slots of frames -/
theorem Rel.noted {c : Cx} (R : Rel c μ σ s) {i : Nat} (g : σ.get i = some .exd) (hx : x = μ (2 * i)) {ox : Obj} {xs : Array Value} {fs : List Addr} {tk : Nat} (ho : s.heap.get? x = some ox) (hcl : ox.cls = .ref (c.ca 6)) 
    (hfs : ∀ a ∈ fs, (∀ j, Used σ j → μ j ≠ a) ∧ c.B.get? a = none ∧ P a ∧ ∀ o, s.heap.get? a = some o → ¬ Frozen o)
    (k : ∀ b o, b ≠ x → b ∉ fs → s.heap.get? b = some o → h'.get? b = some o) (ks : ∀ b o, b ≠ x → s.heap.get? b = some o → ∃ sl, h'.get? b = some { o with slots := sl }) (kx : h'.get? x = some { ox with data := .fields xs }) :
    Rel c μ σ { s with heap := h', toks := tk } ∧ Step P μ σ s.heap μ σ h' ∧ TKeep s.heap h' := by
  subst hx
  have ux := used_of_get g
  have nx : ∀ j, Used σ j → j ≠ 2 * i → μ j ≠ μ (2 * i) := fun j u n e => n (R.inj _ _ u ux e)
  have nfs : ∀ j, Used σ j → μ j ∉ fs := fun j u m => (hfs _ m).1 j u rfl
  have kt : TKeep s.heap h' := ⟨fun a o e f => k a o (fun q => by
    rw [q, ho] at e; cases e
    rcases f with ⟨f, _⟩ | ⟨f, _⟩ <;> rw [hcl] at f <;> cases f) (fun m => (hfs a m).2.2.2 o e f) e⟩
  refine ⟨⟨fun b o e => ?_, R.gens, R.os, R.news, R.inj, fun j o gj => ?_⟩, ⟨fun b o e => ?_, Nat.le_refl _, fun ζ u => u, fun ζ ζ => rfl, fun ζ u n => absurd u n, fun b o e t n => ?_, fun ζ ζ => Nat.le_refl _, fun ζ ζ ζ => rfl, fun j u ζ ne o e => ?_⟩, kt⟩
  · refine k b o (fun q => ?_) (fun m => ?_) (R.keep b o e)
    · have := R.news _ ux; rw [← q, e] at this; cases this
    · have := (hfs b m).2.1; rw [e] at this; cases this
  · by_cases q : j = i
    · subst q
      rw [g] at gj; cases gj
      obtain ⟨o, o', h1, h2, h3, h4⟩ := R.obj _ _ g
      exact ⟨_, o', kx, hcl, k _ _ (nx _ (used_odd g rfl) (by omega)) (nfs _ (used_odd g rfl)) h3, h4⟩
    · exact (R.obj j o gj).mono (Nat.le_refl _) (fun ζ ζ => rfl) kt rfl (fun ob e => k _ _ (nx _ (used_of_get gj) (by omega)) (nfs _ (used_of_get gj)) e) (fun ζ => rfl) (fun t ob e => k _ _ (nx _ (used_odd gj t) (by omega)) (nfs _ (used_odd gj t)) e)
  · by_cases q : b = μ (2 * i)
    · rw [q]; exact ⟨_, kx⟩
    · obtain ⟨sl, z⟩ := ks b o q e; exact ⟨_, z⟩
  · exact k b o (fun q => t _ ux q.symm) (fun m => n (hfs b m).2.2.1) e
  · refine k _ o (nx j u fun q => ?_) (nfs j u) e
    subst q
    rw [show 2 * i / 2 = i by omega, g] at ne
    exact ne rfl

theorem ns_data {h : Heap} {a : Addr} {m : Str → Option Value} (hn : h.Ns a m) : ∃ o, h.get? a = some o ∧ (∀ vs, o.data ≠ .fields vs) ∧ ¬ Frozen o := by
  obtain ⟨o, es, ep, ho, hd, _⟩ := hn
  exact ⟨o, ho, by simp [hd], by simp [Frozen, hd]⟩

theorem leave_op : LeaveOp c := by
  intro env envL A μ σ s ℓ b x K E hA O hf hkL hfL hnL unL hBL R L hx hK
  obtain ⟨m, hm, _⟩ := L.ns
  obtain ⟨mL, hmL⟩ := hnL
  obtain ⟨o1, ho1, hd1, hz1⟩ := ns_data hm
  obtain ⟨o2, ho2, hd2, hz2⟩ := ns_data hmL
  obtain ⟨i, g, ex, ox, ds, kk, hox, hcl, hdi, ⟨xs, hdx, hsz, hnt⟩, hds, hfs⟩ := hx
  have FF : s.heap.FunFrames c.B [env, envL] := ⟨by rw [O.kind]; decide, ⟨env.locals, o1, hf, O.hiL, ho1, hd1⟩, by rw [hkL]; decide, ⟨envL.locals, o2, hfL, hBL, ho2, hd2⟩, trivial⟩
  unfold leaving
  refine wpAny_bind (note_first hA FF hf hox hdx hnt fun h1 N => ?_)
  obtain ⟨kp, ks, T, ts, nT, hx1, hT1, h3⟩ := N
  have h3s : 3 < ts.size := (Array.getElem?_eq_some_iff.mp h3).1
  have hTx : x ≠ T := fun q => by rw [← q, hox] at nT; cases nT
  refine flight_off (s := { s with heap := h1 }) hx1 rfl (T := T) (by rw [Array.getElem?_setIfInBounds]; simp [hsz]) hT1 rfl h3s fun h2 k2 hT2 => ?_
  have efs : (env :: [envL]).filterMap (·.frame) = [env.locals, envL.locals] := by simp [hf, hfL]
  rw [efs] at kp
  have alive : ∀ b o, s.heap.get? b = some o → b ≠ T := fun b o e q => by rw [q, nT] at e; cases e
  have kp2 : ∀ b o, b ≠ x → b ∉ [env.locals, envL.locals] → s.heap.get? b = some o → h2.get? b = some o := fun b o n m e => (k2 b (alive b o e)).trans (kp b o n m e)
  have ks2 : ∀ b o, b ≠ x → s.heap.get? b = some o → ∃ sl, h2.get? b = some { o with slots := sl } := fun b o n e => by
    obtain ⟨sl, z⟩ := ks b o n e
    exact ⟨sl, (k2 b (alive b o e)).trans z⟩
  have hx2 := (k2 x hTx).trans hx1
  have nfs : ∀ a ∈ [env.locals, envL.locals], (∀ j, Used σ j → μ j ≠ a) ∧ c.B.get? a = none ∧ (Own env a ∨ a = envL.locals) ∧ ∀ o, s.heap.get? a = some o → ¬ Frozen o := by
    intro a ha
    simp only [List.mem_cons, List.not_mem_nil, or_false] at ha
    rcases ha with rfl | rfl
    · exact ⟨L.offL, O.hiL, .inl (.inl rfl), fun o e => by rw [ho1] at e; cases e; exact hz1⟩
    · exact ⟨unL, hBL, .inr rfl, fun o e => by rw [ho2] at e; cases e; exact hz2⟩
  obtain ⟨R', S', kt⟩ := R.noted g ex hox hcl nfs kp2 ks2 hx2 (tk := s.toks)
  have hLx : envL.locals ≠ x := fun q => unL _ (used_of_get g) (by rw [q]; exact ex.symm)
  have hod : ∃ sl, h2.get? (μ (2 * i + 1)) = some { dobj ds kk with slots := sl } := ks2 _ _ (fun q => by rw [ex] at q; have := R.inj _ _ (used_odd g rfl) (used_of_get g) q; omega) hds
  have hod' : h2.get? (μ (2 * i + 1)) = some (dobj ds kk) := kp2 _ _ (fun q => by rw [ex] at q; have := R.inj _ _ (used_odd g rfl) (used_of_get g) q; omega) (fun m => (nfs _ m).1 _ (used_odd g rfl) rfl) hds
  refine hK _ R' S' (fun o e => ks2 _ _ hLx e) ⟨i, g, ex, _, ds, kk, hx2, hcl, hdi, ⟨_, rfl, by simp [hsz], T, _, _, by rw [Array.getElem?_setIfInBounds]; simp [hsz], nT, hT2, rfl, rfl, by rw [Array.getElem?_setIfInBounds]; simp [h3s]⟩, hod', hfs.mono (Nat.le_refl _) (fun ζ ζ => rfl) kt⟩
end
end Mine.Internal
end
section
open PySem PySem.W PySem.Calls PyProof.Rows Builtin Builtin.ObjectAttr
set_option maxRecDepth 100000
namespace Mine.Internal

section
variable {c : Cy} {μ μ' : Nat → Addr} {σ σ' : St} {s s' : Shared} {h h' h₁ : Heap} {env envL : Env} {A : Around} {ℓ ℓ' : Loc} {E : Value → Shared → Prop} {D : Nat} {Γ : Env'} {C C2 x : Addr} {ox : Obj} {od : Option Obj} {name : Str} {v : Value}

theorem exc_ga_call {tk : Tok} {R : Result → Shared → Prop} (X : c.K.In s.heap) (I : InstAt s.heap x ox C od) (hmro : excMro c.K C C2 = true) (hf : findObj c.K C od name = some (.value v)) (hq : R (.ok (.ret v)) s) :
    codeAny c.M A (.call (.builtin "BaseException.__getattribute__") ⟨[.ref x, .str name tk], []⟩) R s := by
  obtain ⟨cd, hc, e1⟩ := any_some hmro
  simp only [Bool.and_eq_true, decide_eq_true_eq] at e1
  obtain ⟨em, ed⟩ := e1
  have sub : Looks (model c.prog c.w) s.heap (isInstance (.ref x) (.type "BaseException")) true := I.type.andThen (looks_mroIn X (by unfold mroIn; rw [hc, Option.bind_some, em]; rfl))
  refine codeAny_call_builtin PySem.F.attr_Exception.ga.plain PySem.F.entry_bexc_ga (@check_slot c.M _ _ s "BaseException.__getattribute__" "BaseException" "__getattribute__" (.ref x) [.str name tk] [] _ (by decide +kernel) (by decide +kernel) sub (PySem.F.args_bexc_ga _ _) ?_)
  have L0 := I.type (M := c.M)
  have L1 := looks_find (M := c.M) X I hf
  unfold Builtin.«object.__getattribute__»
  refine wpAny_bind (wpAny_pure (wpAny_bind (wpAny_pure (wpAny_bind (L0.at (wpAny_bind (L1.at ?_)))))))
  exact wpAny_pure hq

theorem exc_get {expr : Bool} {Q : Value → Shared → Prop} (X : c.K.In s.heap) (I : InstAt s.heap x ox C od) (hmro : excMro c.K C C2 = true) (hga : findIn c.K (.ref C) "__getattribute__" = some (some (.builtin "BaseException.__getattribute__"))) (hgt : findIn c.K (.ref C) "__getattr__" = some none)
    (hf : findObj c.K C od name = some (.value v)) (hh : handedIn v = true) (hq : Q v { s with toks := s.toks + 1 }) : wpAny c.M A (getAttr (.ref x) name expr) Q E s := by
  obtain ⟨hp, g, d, t, os⟩ := s
  have L0 := I.type (M := c.M)
  have L1 := looks_findIn (M := c.M) X hga
  have L2 := looks_findIn (M := c.M) X hgt
  unfold getAttr getAttrBy
  refine wpAny_bind (wpAny_mkText (wpAny_holding (wpAny_bind (L0.at (wpAny_bind (L1.at ?_))))))
  have hx2 : (Value.builtin "BaseException.__getattribute__" == Value.builtin "object.__getattribute__") = false := by decide +kernel
  have hx1 : (onTheHeap (Value.ref C) && Value.builtin "BaseException.__getattribute__" == Value.builtin "object.__getattribute__") = false := by rw [hx2]; rfl
  dsimp only
  rw [hx1]
  show wpAny _ _ (getAttrByItsOwn _ _ _ _ _ _) _ _ _
  unfold getAttrByItsOwn
  refine wpAny_bind ?_
  show wpAny _ _ (typeLookup (.ref C) "__getattr__") _ _ _
  have hx0 : (expr && onTheHeap (Value.builtin "BaseException.__getattribute__")) = false := by cases expr <;> rfl
  refine L2.at (wpAny_bind (wpAny_attempt (wpAny_holding ?_)))
  unfold callGetattribute
  rw [hx0, if_neg Bool.false_ne_true]
  unfold boundAndCalled
  rw [PySem.F.attr_Exception.ga.bind]
  refine wpAny_bind (wpAny_pure (wpAny_call (exc_ga_call (s := ⟨hp, g, d, t + 1, os⟩) X I hmro hf ?_)))
  dsimp only
  rw [handedOut_of hh]
  exact wpAny_pure hq
end
end Mine.Internal
end
section
open PySem PySem.W PySem.Calls PyProof.Rows Builtin Builtin.ObjectAttr
set_option maxRecDepth 100000
namespace Mine.Internal

/- an exception of ours as the frame that catches it holds it -/
structure Fly (c : Cy) (env : Env) (ℓ : Loc) (μ₁ : Nat → Addr) (σ₁ : St) (h₁ : Heap) (μ : Nat → Addr) (σ : St) (x : Addr) (b : V) (fl : Value → Prop) (s : Shared) : Prop where
  R : Rel c.toCx μ σ s
  S : Step (Own env) μ₁ σ₁ h₁ μ σ s.heap
  L : LRel env ℓ μ σ s.heap
  X : ∃ i, σ.get i = some .exd ∧ x = μ (2 * i) ∧ ∃ o ds k xs T oT ts v, s.heap.get? x = some o ∧ o.cls = .ref (c.ca 6) ∧ o.dict = some (μ (2 * i + 1)) ∧ o.data = .fields xs ∧ xs.size = 6 ∧ xs[1]? = some (.ref T) ∧ h₁.get? T = none ∧ s.heap.get? T = some oT ∧
    oT.cls = .type "traceback" ∧ oT.data = .fields ts ∧ ts[3]? = some v ∧ fl v ∧ s.heap.get? (μ (2 * i + 1)) = some (dobj ds k) ∧ FsRel c.toCx μ σ.len s.heap [(31, b)] ds.toList

section
variable {c : Cy} {μ₁ μ μ' : Nat → Addr} {σ₁ σ σ' : St} {s s' : Shared} {h h' h₁ : Heap} {env : Env} {A : Around} {ℓ ℓ' : Loc} {E : Value → Shared → Prop} {D : Nat} {Γ : Env'} {x : Addr} {b : V} {fl : Value → Prop}

theorem Rel.notTb {c : Cx} (R : Rel c μ σ s) {j : Nat} (u : Used σ j) {o : Obj} (ho : s.heap.get? (μ j) = some o) : o.cls ≠ .type "traceback" := by
  obtain ⟨ob, g, k⟩ := u
  have r := R.obj _ _ g
  intro hc
  by_cases e : j % 2 = 0
  · have hj : j = 2 * (j / 2) := by omega
    cases ob with
    | list l => obtain ⟨xs, k, q, _⟩ := r; rw [← hj, ho] at q; cases q; simp at hc
    | dict l => obtain ⟨o', ds, k, q, q1, q2⟩ := DRel.obj r.1; rw [← hj, ho] at q; cases q; rw [q1.1] at hc; simp at hc
    | inst cl fs => obtain ⟨q, _⟩ := r; rw [← hj, ho] at q; cases q; simp at hc
    | exc b => obtain ⟨_, _, _, _, q, _⟩ := r; rw [← hj, ho] at q; cases q; simp at hc
    | exd => obtain ⟨o', _, q, q2, _⟩ := r; rw [← hj, ho] at q; cases q; rw [q2] at hc; simp at hc
  · have hj : j = 2 * (j / 2) + 1 := by omega
    have ht : ob.two = true := k.resolve_left e
    cases ob with
    | list l => cases ht
    | dict l => cases ht
    | inst cl fs => obtain ⟨_, _, _, q, _⟩ := r; rw [← hj, ho] at q; cases q; simp at hc
    | exc b => obtain ⟨_, _, _, _, _, _, q, _⟩ := r; rw [← hj, ho] at q; cases q; simp at hc
    | exd => obtain ⟨_, o', _, _, q, q2⟩ := r; rw [← hj, ho] at q; cases q; rw [q2] at hc; simp at hc

theorem ns_slots {a : Addr} {m : Str → Option Value} (hn : h.Ns a m) (k : ∀ o, h.get? a = some o → ∃ sl, h'.get? a = some { o with slots := sl }) : h'.Ns a m := by
  obtain ⟨o, es, ep, ho, hd, r⟩ := hn
  obtain ⟨sl, z⟩ := k o ho
  exact ⟨_, es, ep, z, hd, r⟩
theorem cell_slots {a : Addr} {u : Option Value} (hn : h.IsCell a u) (k : ∀ o, h.get? a = some o → ∃ sl, h'.get? a = some { o with slots := sl }) : h'.IsCell a u := by
  obtain ⟨o, ho, hd⟩ := hn
  obtain ⟨sl, z⟩ := k o ho
  exact ⟨_, z, hd⟩

theorem LRel.slots (L : LRel env ℓ μ σ h) (k : ∀ a o, Own env a → h.get? a = some o → ∃ sl, h'.get? a = some { o with slots := sl }) (tk : TKeep h h') : LRel env ℓ μ σ h' := by
  obtain ⟨m, hm, hv⟩ := L.ns
  refine ⟨⟨m, ns_slots hm fun o e => k _ o (.inl rfl) e, fun i x v e g => ?_⟩, fun i x kd e hk => ?_, L.offL, L.offC, fun x a hx => ?_⟩
  · obtain ⟨v', z1, z2⟩ := hv i x v e g
    exact ⟨v', z1, z2.mono (Nat.le_refl _) (fun ζ ζ => rfl) tk⟩
  · obtain ⟨a, u, z1, z2, z3⟩ := L.cell i x kd e hk
    refine ⟨a, u, z1, cell_slots z2 fun o e => k _ o (.inr ⟨x, mem_of_lookup z1⟩) e, fun v g => ?_⟩
    obtain ⟨v', q1, q2⟩ := z3 v g
    exact ⟨v', q1, q2.mono (Nat.le_refl _) (fun ζ ζ => rfl) tk⟩
  · obtain ⟨u, z⟩ := L.there x a hx
    exact ⟨u, cell_slots z fun o e => k _ o (.inr ⟨x, hx⟩) e⟩

/- from a step by which the frame's slots alone turn besides -/
theorem LRel.call (L : LRel env ℓ μ₁ σ₁ h₁) (O : EnvOk c env) (R : Rel c.toCx μ₁ σ₁ s) (e : s.heap = h₁) (S : Step (fun a => a = env.locals) μ₁ σ₁ h₁ μ σ h') (sl : SlotsAt env.locals h₁ h') : LRel env ℓ μ σ h' := by
  subst e
  have tk : TKeep s.heap h' := S.tkeep R fun a o p e f => by
    subst p
    obtain ⟨m, hm, _⟩ := L.ns
    obtain ⟨o', h1, _, h3⟩ := ns_data hm
    rw [e] at h1; cases h1; exact h3 f
  have kC : ∀ x a o, (x, a) ∈ env.cells → s.heap.get? a = some o → ∃ sl, h'.get? a = some { o with slots := sl } := fun x a o hx e => ⟨o.slots, S.keep a o e (L.offC x a hx) (O.offL x a hx)⟩
  have un : ∀ a, Own env a → (∀ j, Used σ₁ j → μ₁ j ≠ a) → (∃ o, s.heap.get? a = some o) → ∀ j, Used σ j → μ j ≠ a := fun a ζ h1 h2 j u e => by
    by_cases q : Used σ₁ j
    · rw [S.same j q] at e; exact h1 j q e
    · have := S.fresh j u q
      obtain ⟨o, ho⟩ := h2
      rw [e, ho] at this; cases this
  obtain ⟨m, hm, hv⟩ := L.ns
  refine ⟨⟨m, ns_slots hm fun o e => sl o e, fun i x v e g => ?_⟩, fun i x kd e hk => ?_, un _ (.inl rfl) L.offL (let ⟨o, _, _, h, _⟩ := hm; ⟨o, h⟩), fun x a hx => un a (.inr ⟨x, hx⟩) (L.offC x a hx) (let ⟨_, o, h, _⟩ := L.there x a hx; ⟨o, h⟩), fun x a hx => ?_⟩
  · obtain ⟨v', z1, z2⟩ := hv i x v e g
    exact ⟨v', z1, z2.mono S.len S.even tk⟩
  · obtain ⟨a, u, z1, z2, z3⟩ := L.cell i x kd e hk
    refine ⟨a, u, z1, cell_slots z2 fun o e => kC _ a o (mem_of_lookup z1) e, fun v g => ?_⟩
    obtain ⟨v', q1, q2⟩ := z3 v g
    exact ⟨v', q1, q2.mono S.len S.even tk⟩
  · obtain ⟨u, z⟩ := L.there x a hx
    exact ⟨u, cell_slots z fun o e => kC _ a o hx e⟩

/- an entry's object turns -/
theorem turnT {T : Addr} {oT : Obj} (hB : c.B.StaysIn h₁) (alive : ∀ a, Own env a → ∃ o, h₁.get? a = some o) (R : Rel c.toCx μ σ s) (S : Step (Own env) μ₁ σ₁ h₁ μ σ s.heap) (L : LRel env ℓ μ σ s.heap) (nT : h₁.get? T = none)
    (hT : s.heap.get? T = some oT) (hc : oT.cls = .type "traceback") (k : ∀ b, b ≠ T → h'.get? b = s.heap.get? b) : Rel c.toCx μ σ { s with heap := h' } ∧ Step (Own env) μ₁ σ₁ h₁ μ σ h' ∧ LRel env ℓ μ σ h' ∧ TKeep s.heap h' := by
  have un : ∀ j, Used σ j → μ j ≠ T := fun j u e => R.notTb u (by rw [e]; exact hT) hc
  have nB : c.B.get? T = none := by
    cases q : c.B.get? T with
    | none => rfl
    | some o => rw [hB _ _ q] at nT; cases nT
  have ks : ∀ b o, b ≠ T → s.heap.get? b = some o → h'.get? b = some o := fun b o n e => (k b n).trans e
  have tk : TKeep s.heap h' := ⟨fun a o e f => ks a o (fun q => by rw [q, hT] at e; cases e; rcases f with ⟨f, _⟩ | ⟨f, _⟩ <;> rw [hc] at f <;> simp at f) e⟩
  refine ⟨R.other un nB ks tk (tk := s.toks), S.other nT ks, L.slots (fun a o ow e => ⟨o.slots, ks a o (fun q => ?_) e⟩) tk, tk⟩
  obtain ⟨o', z⟩ := alive a ow
  rw [q, nT] at z; cases z

theorem Fly.note {K : Unit → Shared → Prop} (hB : c.B.StaysIn h₁) (alive : ∀ a, Own env a → ∃ o, h₁.get? a = some o) (O : EnvOk c env) (hA : A.frames = some [env]) (hf : env.frame = some env.locals) (F : Fly c env ℓ μ₁ σ₁ h₁ μ σ x b (· = .none) s)
    (k : ∀ s', Fly c env ℓ μ₁ σ₁ h₁ μ σ x b (fun ζ => True) s' → K () s') : wpAny c.M A (noteFrame (.ref x) env) K E s := by
  obtain ⟨R, S, L, i, g, ex, ox, ds, kk, xs, T, oT, ts, v, hox, hcl, hdi, hdx, hsz, h1, nT, hT, hcT, hdT, h3, rfl, hds, hfs⟩ := F
  obtain ⟨m, hm, _⟩ := L.ns
  obtain ⟨o1, ho1, hd1, hz1⟩ := ns_data hm
  have FF : s.heap.FunFrames c.B [env] := ⟨by rw [O.kind]; decide, ⟨env.locals, o1, hf, O.hiL, ho1, hd1⟩, trivial⟩
  have hTx : T ≠ x := fun q => by rw [q, hox] at hT; cases hT; rw [hcl] at hcT; cases hcT
  refine note_next hA FF hf hox hdx h1 hT hdT h3 hTx fun h' hm' ho hlT N => ?_
  obtain ⟨Rm, Sm, Lm, tkm⟩ := turnT (h' := hm') hB alive R S L nT hT hcT ho
  obtain ⟨kp, ks, T2, ts2, nT2, hx2, hT2, h32⟩ := N
  have efs : ([env]).filterMap (·.frame) = [env.locals] := by simp [hf]
  rw [efs] at kp
  have hoxm := (ho x (Ne.symm hTx)).trans hox
  obtain ⟨mm, hmm, _⟩ := Lm.ns
  obtain ⟨o2, ho2, _, hz2⟩ := ns_data hmm
  have nfs : ∀ a ∈ [env.locals], (∀ j, Used σ j → μ j ≠ a) ∧ c.B.get? a = none ∧ Own env a ∧ ∀ o, hm'.get? a = some o → ¬ Frozen o := by
    intro a ha
    simp only [List.mem_cons, List.not_mem_nil, or_false] at ha
    subst ha
    exact ⟨Lm.offL, O.hiL, .inl rfl, fun o e => by rw [ho2] at e; cases e; exact hz2⟩
  obtain ⟨R', S', kt⟩ := Rel.noted (s := { s with heap := hm' }) (h' := h') (P := Own env) Rm g ex hoxm hcl nfs kp ks hx2 (tk := s.toks)
  have nx : μ (2 * i + 1) ≠ x := fun q => by rw [ex] at q; have := R.inj _ _ (used_odd g rfl) (used_of_get g) q; omega
  have nds : μ (2 * i + 1) ∉ [env.locals] := fun m => (nfs _ m).1 _ (used_odd g rfl) rfl
  have ndT : μ (2 * i + 1) ≠ T := fun q => R.notTb (used_odd g rfl) (by rw [q]; exact hT) hcT
  have nT2' : h₁.get? T2 = none := by
    cases q : h₁.get? T2 with
    | none => rfl
    | some o => obtain ⟨o', z⟩ := Sm.live _ _ q; rw [nT2] at z; cases z
  refine k _ ⟨R', Sm.trans S', Lm.slots (fun a o ow e => ks a o (fun q => own_un Lm ow _ (used_of_get g) (by rw [q]; exact ex.symm)) e) kt, i, g, ex, _, ds, kk, _, T2, _, ts2, _, hx2, hcl, hdi, rfl, by simp [hsz], by rw [Array.getElem?_setIfInBounds]; simp [hsz], nT2', hT2, rfl, rfl, h32, trivial,
    kp _ _ nx nds ((ho _ ndT).trans hds), (hfs.mono (Nat.le_refl _) (fun ζ ζ => rfl) tkm).mono (Nat.le_refl _) (fun ζ ζ => rfl) kt⟩

theorem Fly.off {K : Unit → Shared → Prop} (hB : c.B.StaysIn h₁) (alive : ∀ a, Own env a → ∃ o, h₁.get? a = some o) (F : Fly c env ℓ μ₁ σ₁ h₁ μ σ x b fl s)
    (k : ∀ s', Fly c env ℓ μ₁ σ₁ h₁ μ σ x b (· = .none) s' → K () s') : wpAny c.M A (setFlight (.ref x) none) K E s := by
  obtain ⟨R, S, L, i, g, ex, ox, ds, kk, xs, T, oT, ts, v, hox, hcl, hdi, hdx, hsz, h1, nT, hT, hcT, hdT, h3, hfl, hds, hfs⟩ := F
  have h3s : 3 < ts.size := (Array.getElem?_eq_some_iff.mp h3).1
  have hTx : T ≠ x := fun q => by rw [q, hox] at hT; cases hT; rw [hcl] at hcT; cases hcT
  refine flight_off hox hdx h1 hT hdT h3s fun h2 k2 hT2 => ?_
  obtain ⟨Rm, Sm, Lm, tkm⟩ := turnT (h' := h2) hB alive R S L nT hT hcT k2
  have ndT : μ (2 * i + 1) ≠ T := fun q => R.notTb (used_odd g rfl) (by rw [q]; exact hT) hcT
  exact k _ ⟨Rm, Sm, Lm, i, g, ex, ox, ds, kk, xs, T, _, _, _, (k2 _ (Ne.symm hTx)).trans hox, hcl, hdi, hdx, hsz, h1, nT, hT2, hcT, rfl, by rw [Array.getElem?_setIfInBounds]; simp [h3s], rfl, (k2 _ ndT).trans hds, hfs.mono (Nat.le_refl _) (fun ζ ζ => rfl) tkm⟩
end
end Mine.Internal
end
section
open PySem PySem.W PySem.Calls PyProof.Rows Builtin Builtin.ObjectAttr
set_option maxRecDepth 100000
namespace Mine.Internal

section
variable {c : Cy} {μ₁ μ μ' : Nat → Addr} {σ₁ σ σ' : St} {s s' : Shared} {h h' h₁ : Heap} {env : Env} {A : Around} {ℓ ℓ' : Loc} {E : Value → Shared → Prop} {D : Nat} {Γ : Env'} {x : Addr} {b : V} {fl : Value → Prop} {nm : Str} {k : Nat} {m m' : Str → Option Value}

theorem Fly.locals (O : EnvOk c env) (F : Fly c env ℓ μ₁ σ₁ h₁ μ σ x b fl s) (hk : idxOf nm env.scope.names 0 = some (k, .local)) (hl : ℓ k = none) (hm : s.heap.Ns env.locals m)
    (hv : ∀ i x v, env.scope.names[i]? = some (x, .local) → ℓ i = some v → ∃ v', m x = some v' ∧ VRel μ σ.len s.heap v v') (hm' : h'.Ns env.locals m') (hag : ∀ y, y ≠ nm → m' y = m y) (hs : Heap.SameBut env.locals s.heap h') {tk : Nat} :
    Fly c env ℓ μ₁ σ₁ h₁ μ σ x b fl { s with heap := h', toks := tk } ∧ ∀ i x v, env.scope.names[i]? = some (x, .local) → ℓ i = some v → ∃ v', m' x = some v' ∧ VRel μ σ.len h' v v' := by
  obtain ⟨R, S, L, i, g, ex, ox, ds, kk, xs, T, oT, ts, v, hox, hcl, hdi, hdx, hsz, h1, nT, hT, hcT, hdT, h3, hfl, hds, hfs⟩ := F
  obtain ⟨o1, ho1, hd1, hz1⟩ := ns_data hm
  obtain ⟨g0, _⟩ := O.kindOf hk
  have tk' : TKeep s.heap h' := TKeep.of_sameBut hs ho1 hz1
  have ks : ∀ b o, b ≠ env.locals → s.heap.get? b = some o → h'.get? b = some o := SameBut.ext hs
  have hv' : ∀ i x v, env.scope.names[i]? = some (x, .local) → ℓ i = some v → ∃ v', m' x = some v' ∧ VRel μ σ.len h' v v' := fun i y w e hw => by
    obtain ⟨w', z1, z2⟩ := hv i y w e hw
    refine ⟨w', (hag y fun q => ?_).trans z1, z2.mono (Nat.le_refl _) (fun ζ ζ => rfl) tk'⟩
    subst q
    have h1 := (List.getElem?_inj (i := i) (j := k) (by have := (List.getElem?_eq_some_iff.mp e).1; simpa using this) O.nodup).mp (by rw [List.getElem?_map, List.getElem?_map, e, g0])
    subst h1
    rw [hl] at hw; cases hw
  have al : ∃ o, h'.get? env.locals = some o := let ⟨o, z, _⟩ := ns_data hm'; ⟨o, z⟩
  have nf : ∀ o, o.data = .fields xs ∨ o.data = .fields ts → s.heap.get? env.locals ≠ some o := fun o q e => by
    rw [ho1] at e; cases e
    rcases q with q | q <;> exact hd1 _ q
  refine ⟨⟨R.other L.offL O.hiL ks tk', S.trans (Step.at (.inl rfl) L.offL ks al), ⟨⟨m', hm', hv'⟩, fun i y kd e hk' => ?_, L.offL, L.offC, fun y a ha => ?_⟩, i, g, ex, ox, ds, kk, xs, T, oT, ts, v, ks _ _ (fun q => nf _ (.inl hdx) (q ▸ hox)) hox, hcl, hdi, hdx, hsz, h1, nT,
    ks _ _ (fun q => nf _ (.inr hdT) (q ▸ hT)) hT, hcT, hdT, h3, hfl, ks _ _ (L.offL _ (used_odd g rfl)) hds, hfs.mono (Nat.le_refl _) (fun ζ ζ => rfl) tk'⟩, hv'⟩
  · obtain ⟨a, u, h1, h2, h3⟩ := L.cell i y kd e hk'
    refine ⟨a, u, h1, h2.sameBut hs (O.offL y a (mem_of_lookup h1)), fun w hw => ?_⟩
    obtain ⟨w', q1, q2⟩ := h3 w hw
    exact ⟨w', q1, q2.mono (Nat.le_refl _) (fun ζ ζ => rfl) tk'⟩
  · obtain ⟨u, hu⟩ := L.there y a ha
    exact ⟨u, hu.sameBut hs (O.offL y a ha)⟩

theorem Fly.toks (F : Fly c env ℓ μ₁ σ₁ h₁ μ σ x b fl s) {tk : Nat} : Fly c env ℓ μ₁ σ₁ h₁ μ σ x b fl { s with toks := tk } := ⟨F.R.tok, F.S, F.L, F.X⟩

theorem Fly.goes {pos : Pos} {K : Unit → Shared → Prop} (O : EnvOk c env) (F : Fly c env ℓ μ₁ σ₁ h₁ μ σ x b fl s) (hk : idxOf nm env.scope.names 0 = some (k, .local)) (hl : ℓ k = none)
    (q : ∀ s', Fly c env ℓ μ₁ σ₁ h₁ μ σ x b fl s' → K () s') : wpAny c.M A (do bindName env nm .none; unbindBehindTheSuite env nm pos) K E s := by
  obtain ⟨m, hm, hv⟩ := F.L.ns
  obtain ⟨_, kd⟩ := O.kindOf hk
  have hp : (env.scope.kind == .class || (env.scope.kind == .module && env.locals != env.globals)) = false := by rw [O.kind]; rfl
  refine wpAny_bind (wpAny_bindName (wpAny_storeName_local kd hm (fun h₁' hn₁ hs₁ => ?_) hp))
  obtain ⟨F', hv'⟩ := F.locals (tk := s.toks + 1) O hk hl hm hv hn₁ (fun y n => by simp [n]) hs₁
  unfold unbindBehindTheSuite
  refine wpAny_onRaise ?_
  unfold unbindName
  refine wpAny_bind (wpAny_point (wpAny_bind ?_))
  unfold deleteName
  simp only [kd, hp]
  rw [if_neg (by decide)]
  refine wpAny_bind (wpAny_nsDel_keeps hn₁ fun h₂ v hn₂ hs₂ => ?_)
  simp only [if_true, Option.isSome_some, Bool.not_true, Bool.false_eq_true, if_false]
  obtain ⟨F'', _⟩ := F'.locals (tk := s.toks + 1) O hk hl hn₁ hv' hn₂ (fun y n => by simp [n]) hs₂
  exact wpAny_pure (wpAny_point (q _ F''))

theorem Fly.stores {K : Unit → Shared → Prop} (O : EnvOk c env) (F : Fly c env ℓ μ₁ σ₁ h₁ μ σ x b fl s) (hk : idxOf nm env.scope.names 0 = some (k, .local)) (hl : ℓ k = none)
    (q : ∀ s' m', Fly c env ℓ μ₁ σ₁ h₁ μ σ x b fl s' → s'.heap.Ns env.locals m' → m' nm = some (.ref x) → K () s') : wpAny c.M A (storeName env nm (.ref x)) K E s := by
  obtain ⟨m, hm, hv⟩ := F.L.ns
  obtain ⟨_, kd⟩ := O.kindOf hk
  have hp : (env.scope.kind == .class || (env.scope.kind == .module && env.locals != env.globals)) = false := by rw [O.kind]; rfl
  refine wpAny_storeName_local kd hm (fun h₁' hn₁ hs₁ => ?_) hp
  obtain ⟨F', hv'⟩ := F.locals (tk := s.toks + 1) O hk hl hm hv hn₁ (fun y n => by simp [n]) hs₁
  exact q _ _ F' hn₁ (by simp)

/- the test of the suite -/
theorem Fly.ball {p : Pos} {xe : Expr} {Q : Value → Shared → Prop} (C0 : COk c) (XF : XFacts c) (F : Fly c env ℓ μ₁ σ₁ h₁ μ σ x b fl s) (hx : wpAny c.M A (eval xe env) (fun v s' => v = .ref x ∧ s' = s) E s) (hn : noSup xe = true)
    (q : ∀ s' v, Fly c env ℓ μ₁ σ₁ h₁ μ σ x b fl s' → s'.heap = s.heap → VRel μ σ.len s'.heap b v → Q v s') : wpAny c.M A (eval (.Attribute xe (atName 31) p) env) Q E s := by
  refine attr_node hn (wpAny_mono hx (fun v s' h => ?_) fun ζ ζ z => z)
  obtain ⟨rfl, rfl⟩ := h
  have F0 := F
  obtain ⟨R, S, L, i, g, ex, ox, ds, kk, xs, T, oT, ts, v, hox, hcl, hdi, hdx, hsz, h1, nT, hT, hcT, hdT, h3, hfl, hds, hfs⟩ := F
  obtain ⟨nm', qn, N, bs, hdct, sn, sub, ab, col, dd, k0, k1, k2, k3, k5, C2, mN, hlk, hN, hi, T', hmro⟩ := XF.obj
  obtain ⟨g1, g2, g3⟩ := XF.get_
  have e2 := XF.set_
  simp only [excSet, Bool.and_eq_true, decide_eq_true_eq] at e2
  have gl := hfs.getL (a := 31) (by decide)
  simp only [lget, if_true] at gl
  obtain ⟨w, z1, z2⟩ := gl
  have I : InstAt s'.heap x ox (c.ca 6) (some (dictOf ds.toList kk)) := ⟨hox, hcl, by unfold notCls; rw [hdx], by rw [hdi]; exact hds⟩
  refine exc_get (s := s') (C0.K.keeps R.keep) I hmro g1 g2 (findObj_own g3 e2.2 rfl z1) (handed_of z2) (q _ _ F0.toks rfl z2)
end
end Mine.Internal
end
section
open PySem PySem.W PySem.Calls PyProof.Rows Builtin Builtin.ObjectAttr
set_option maxRecDepth 100000
namespace Mine.Internal

section
variable {c : Cy} {μ₁ μ μ' : Nat → Addr} {σ₁ σ σ' : St} {s s' : Shared} {h h' h₁ : Heap} {env : Env} {A : Around} {ℓ ℓ' : Loc} {E : Value → Shared → Prop} {D : Nat} {Γ : Env'} {x : Addr} {b : V} {fl : Value → Prop} {nm : Str} {k : Nat} {m m' : Str → Option Value}

/- a local name is read where an exception is handled -/
theorem eval_local {y : Str} {p : Pos} {K : Value → Shared → Prop} {w : Value} (O : EnvOk c env) (hk : idxOf y env.scope.names 0 = some (k, .local)) (hd : (y == ("__debug__" : Str)) = false) (hm : s.heap.Ns env.locals m) (hy : m y = some w) (q : K w s) : wpAny c.M A (eval (.Name y p) env) K E s :=
  wpAny_Name (wpAny_loadName_local O.kind (O.kindOf hk).2 hm hy q) hd

theorem caught {Qf : Flow → Shared → Prop} {cn nx ny : Str} {p4 p5 p6 p7 p8 q6 p9 p10 : Pos} {q4 : Nat} {q5 : Pos} {d : V} {r : Bool} {ky : Nat} (C0 : COk c) (XF : XFacts c) (hB : c.B.StaysIn h₁) (alive : ∀ a, Own env a → ∃ o, h₁.get? a = some o) (O : EnvOk c env) (hu : A.units + 64 < cLine)
    (hA : A.frames = some [env]) (hf : env.frame = some env.locals) (F : Fly c env ℓ μ₁ σ₁ h₁ μ σ x b (· = .none) s)
    (hcn : cn = ("PrologError" : Str)) (hci : ∃ z, idxOf cn env.scope.names 0 = some (z, .globalImplicit)) (hk : idxOf nx env.scope.names 0 = some (k, .local)) (hy : idxOf ny env.scope.names 0 = some (ky, .local)) (hl : ℓ k = none) (hd : ℓ ky = some d) (he : eqV b d σ = some r)
    (hnx : (nx == ("__debug__" : Str)) = false) (hny : (ny == ("__debug__" : Str)) = false)
    (q : ∀ s', Fly c env ℓ μ₁ σ₁ h₁ μ σ x b (· = .none) s' → Qf (if r then .next else .ret (.bool false)) s') :
    wpAny c.M A (noteFrame (.ref x) env) (fun ζ s₂ => wpAny c.M A (setFlight (.ref x) none) (fun ζ s₃ => wpAny c.M A (handleBy (.ref x) env
      [.ExceptHandler (some (.Name cn p4)) (some nx) [.If (.Compare (.Attribute (.Name nx p5) (atName 31) p6) [.NotEq] [.Name ny p7] p8) [.Return (some (.Constant (.bool false) q4 q5)) q6] [] p9] p10]) Qf E s₃) E s₂) E s := by
  refine F.note hB alive O hA hf fun s2 F2 => F2.off hB alive fun s3 F3 => ?_
  obtain ⟨z, hci⟩ := hci
  have X3 := C0.K.keeps F3.R.keep
  refine wpAny_handleBy_cons (codeAny_handlers_test (wpAny_Name (load_glob O C0 F3.R hci (.inl (by rw [hcn]; exact XF.mgx)) ?_) (by rw [hcn]; decide))) (by intro q; cases q)
  have LT : Looks c.M s3.heap (typeOf (.ref x)) (.ref (c.ca 6)) := by
    obtain ⟨i, g, ex, ox, ds, kk, xs, T, oT, ts, v, hox, hcl, _⟩ := F3.X
    exact hcl ▸ (Looks.ld hox).andThen .now
  refine (exm_one X3 LT XF.exm).here ?_
  dsimp only
  rw [if_pos rfl]
  refine codeAny_handlers_suite_as (F3.off hB alive fun s4 F4 => F4.stores O hk hl fun s5 m5 F5 hm5 hx5 => wpAny_execs_cons (wpAny_If ?_))
  show wpAny _ _ (do testChain p8 (← eval (.Attribute (.Name nx p5) (atName 31) p6) env) [.NotEq] (markedEach [.NotEq] [.Name ny p7] (evalEach [.Name ny p7] env))) _ _ _
  rw [show evalEach [.Name ny p7] env = [eval (.Name ny p7) env] from rfl, marked_one (by rfl)]
  refine wpAny_bind (F5.ball C0 XF (eval_local O hk hnx hm5 hx5 ⟨rfl, rfl⟩) rfl fun s6 bv F6 hs6 rb => ?_)
  obtain ⟨m6, hm6, hv6⟩ := F6.L.ns
  obtain ⟨dv, hd1, rd⟩ := hv6 ky ny d (O.kindOf hy).1 hd
  refine wpAny_bind (wpAny_holding (eval_local O hy hny hm6 hd1 (wpAny_bind (wpAny_standAt (wpAny_bind (wpAny_operating (ne_op (A := A.mark (some (.ref x))) (show (A.mark (some (.ref x))).units + 64 < cLine from hu) F6.R rb rd he (wpAny_holding (wpAny_truthy_bool ?_)))))))))
  cases r with
  | true =>
    simp only [Bool.not_true, Bool.false_eq_true, if_false]
    exact wpAny_execs_nil (wpAny_execs_nil (F6.goes O hk hl q))
  | false =>
    simp only [Bool.not_false, if_true]
    exact wpAny_execs_cons (wpAny_Return_some (wpAny_pure (F6.goes O hk hl q)))
end
end Mine.Internal
end
section
open PySem PySem.W PySem.Calls PyProof.Rows Builtin Builtin.ObjectAttr
set_option maxRecDepth 100000
namespace Mine.Internal

section
variable {c : Cy}

theorem mcall_no {Γ : Env'} {μ : Nat → Addr} {n : Nat} {h : Heap} {σ : St} {mt : Mt} {v : V} {v' : Value} {vs : List V} {vs' : List Value} {X : V → St → Prop} (rv : VRel μ n h v v') (rvs : VsRel μ n h vs vs') (q : mcallV Γ mt v vs σ noX X) (no : ∀ id, mt ≠ .usr id) : False := by
  cases mt with
  | usr id => exact no id rfl
  | append => exact obj_out (M := fun ζ ζ => False) rv q fun i q => one_out (N := fun ζ ζ => False) rvs q fun y w ry q => listO_out q fun l g q => q.2
  | get =>
    refine obj_out (M := fun ζ ζ => False) rv q fun i q => ?_
    cases vs with
    | nil => exact q
    | cons x vs => cases vs with
      | nil => exact dictO_out q fun es g q => q.2
      | cons y vs => cases vs with
        | nil => exact dictO_out q fun es g q => q.2
        | cons _ _ => exact q
  | startswith => exact str_out (M := fun ζ ζ => False) rv q fun z t q => one_out (N := fun ζ ζ => False) rvs q fun y w ry q => str_out (M := fun ζ ζ => False) ry q fun ζ ζ q => q
theorem try_thm (C0 : COk c) (XF : XFacts c) : TryThm c := by
  intro Γ D S SO XO SX i j l k a m st sc hc
  refine try_shape hc fun o n p2 args p p3 q1 q2 q3 cn p4 x p5 at_ p6 y p7 p8 q4 q5 q6 p9 p10 p11 p12 e0 ζ h1 h2 h3 hk hy ha hcn hcn2 hs hl hla hdgx hdgy => ?_
  subst e0
  intro env A μ σ s ℓ E Q hes hT X q hE
  subst hes
  have So := hT rfl
  obtain ⟨hkn, q⟩ := q
  have all := allIE S SO XO
  have alls := allIEs S SO XO
  refine wpAny_Try_except (wpAny_execs_cons (wpAny_Expr_any (wpAny_mono (mcall_any (K := fun ζ ζ => False) S rfl X h1 h2 h3 hs hl hla (all i) (alls l) q ?_) (fun ζ ζ z => z.elim) (fun ζ ζ z => z)) (not_inter X.O) (no_swap rfl)))
  intro mt v v' vs vs' s₁ μ₁ σ₁ X₁ S₁ rv rvs qm
  cases mt with
  | usr id =>
    refine wpAny_call (codeAny_mono (SX id A env ℓ μ₁ σ₁ s₁ (v :: vs) (v' :: vs') _ _ X₁.H.f So X.O.kind X.O.hiL X₁.L X₁.R ⟨v', vs', rfl, rv, rvs⟩ qm) fun r s₂ z => ?_)
    cases r with
    | ok f => cases f <;> first | exact z.elim | (obtain ⟨_, _, _, z, _⟩ := z; exact z.elim)
    | error e =>
      obtain ⟨μ₂, σ₂, b, xx, ⟨rfl, hq⟩, R₂, S₂, sl, rfl, z⟩ := z
      refine some_out hq fun d hd hq => some_out hq fun r he hq => ?_
      have alive : ∀ a, Own env a → ∃ o, s₁.heap.get? a = some o := by
        rintro a (rfl | ⟨y, hy⟩)
        · obtain ⟨mm, hm, _⟩ := X₁.L.ns
          obtain ⟨o, ho, _⟩ := ns_data hm
          exact ⟨o, ho⟩
        · obtain ⟨u, o, ho, _⟩ := X₁.L.there y a hy
          exact ⟨o, ho⟩
      have F : Fly c env ℓ μ₁ σ₁ s₁.heap μ₂ σ₂ xx b (· = .none) s₂ := by
        obtain ⟨ix, g, ex, o', ds, kk, hox, hcl, hdi, ⟨xs, hdx, hsz, T, ot, ts, t1, t2, t3, t4, t5, t6⟩, hds, hfs⟩ := z
        exact ⟨R₂, S₂.weaken fun a p => .inl p, X₁.L.call X₁.O X₁.R rfl S₂ sl, ix, g, ex, o', ds, kk, xs, T, ot, ts, _, hox, hcl, hdi, hdx, hsz, t1, t2, t3, t4, t5, t6, rfl, hds, hfs⟩
      rw [S.at_] at ha
      obtain ⟨ea, _⟩ := attrIx_name ha
      subst ea
      refine caught C0 XF X₁.R.keep alive X.O X.H.units64 So.frames So.frame F hcn2 hcn hk hy hkn hd he hdgx hdgy fun s' F' => ?_
      cases r with
      | true => exact ⟨μ₂, σ₂, ℓ, F'.R, S₁.own.trans F'.S, F'.L, .inl ⟨rfl, hq⟩⟩
      | false => exact ⟨μ₂, σ₂, ℓ, F'.R, S₁.own.trans F'.S, F'.L, .inr ⟨.bool false, _, rfl, rfl, hq⟩⟩
  | _ => exact (mcall_no rv rvs qm fun ζ e => nomatch e).elim
end
end Mine.Internal
end
section
open PySem PySem.W PySem.Calls PyProof.Rows
set_option maxRecDepth 100000
namespace Mine.Internal

/- every question lies below n, and what comes out is R -/
noncomputable def kasAll {α : Type} (n : Nat) : KasT α → (α → Prop) → Prop
  | .ret a, R => R a
  | .ask i j k, R => (i < n ∧ j < n) ∧ ∀ b, kasAll n (k b) R
noncomputable def kasRun {α : Type} (lt : Nat → Nat → Bool) : KasT α → α
  | .ret a => a
  | .ask i j k => kasRun lt (k (lt i j))

theorem kasAll_bind {α β : Type} {n : Nat} {R : α → Prop} {R' : β → Prop} {f : α → KasT β} : ∀ {t : KasT α}, kasAll n t R → (∀ a, R a → kasAll n (f a) R') → kasAll n (t.bind f) R'
  | .ret a, h, k => k a h
  | .ask _ _ _, h, k => ⟨h.1, fun b => kasAll_bind (h.2 b) k⟩
theorem kasAll_run {α : Type} {n : Nat} {R : α → Prop} {lt : Nat → Nat → Bool} : ∀ {t : KasT α}, kasAll n t R → R (kasRun lt t)
  | .ret _, h => h
  | .ask i j k, h => kasAll_run (n := n) (lt := lt) (t := k (lt i j)) (h.2 (lt i j))
theorem kas_pure {α : Type} {n : Nat} {R : α → Prop} {lt : Nat → Nat → Bool} {cmp : Nat → Nat → (Bool → Shared → Prop) → Shared → Prop} {s : Shared} (hc : ∀ i j C, i < n → j < n → C (lt i j) s → cmp i j C s) {Q : α → Shared → Prop} :
    ∀ {t : KasT α}, kasAll n t R → Q (kasRun lt t) s → t.kasWp cmp Q s
  | .ret _, _, q => q
  | .ask i j k, h, q => hc i j _ h.1.1 h.1.2 (kas_pure hc (h.2 _) q)

noncomputable def Good (n : Nat) (p : Array Nat) : Prop := (∀ x ∈ p, x < n) ∧ p.size = n
theorem Good.perm {n : Nat} {p q : Array Nat} (h : Good n p) (e : q.Perm p) : Good n q := ⟨fun x hx => h.1 x (e.mem_iff.mp hx), e.size_eq.trans h.2⟩
theorem Good.rev {n : Nat} {p : Array Nat} (h : Good n p) (i j : Nat) : Good n (kas_rev p i j) := h.perm (mirror_perm _ _ _ _)
theorem Good.at {n : Nat} {p : Array Nat} (h : Good n p) (hn : 0 < n) (i : Nat) : p.getD i 0 < n := by
  unfold Array.getD
  split
  · exact h.1 _ (Array.getElem_mem _)
  · exact hn

section
variable {n : Nat} (hn : 0 < n)
include hn
theorem asc_all {p : Array Nat} (h : Good n p) : ∀ (f m : Nat), kasAll n (kas_asc p f m) (fun ζ => True)
  | 0, _ => trivial
  | f + 1, m => ⟨⟨h.at hn _, h.at hn _⟩, fun b => by cases b; exact asc_all h f (m + 1); exact trivial⟩
theorem desc_all : ∀ (f : Nat) (p : Array Nat) (m q : Nat), Good n p → kasAll n (kas_desc f p m q) (fun r => Good n r.1)
  | 0, _, _, _, h => h
  | f + 1, p, m, q, h => by
    refine ⟨⟨h.at hn _, h.at hn _⟩, fun b => ?_⟩
    cases b with
    | true =>
      simp only [if_true]
      split
      · exact desc_all f _ _ _ (h.rev _ _)
      · exact desc_all f _ _ _ h
    | false =>
      simp only [Bool.false_eq_true, if_false]
      refine ⟨⟨h.at hn _, h.at hn _⟩, fun b => ?_⟩
      cases b with
      | true => exact h
      | false => exact desc_all f _ _ _ h
theorem tail3_all {p : Array Nat} (h : Good n p) (a b : Nat) : kasAll n (kas_tail3 a b p) (fun r => Good n r.2) := kasAll_bind (asc_all hn (h.rev _ _) _ _) fun ζ ζ => h.rev _ _
theorem descPart_all {p : Array Nat} (h : Good n p) (a b : Nat) : kasAll n (kas_descPart a b p) (fun r => Good n r.2) := by
  refine kasAll_bind (desc_all hn _ _ _ _ h) fun r hr => ?_
  split
  · exact tail3_all hn (hr.rev _ _) _ _
  · exact tail3_all hn hr _ _
theorem count_all {p : Array Nat} (h : Good n p) (b : Nat) : kasAll n (kas_count b p) (fun r => Good n r.2) := by
  refine kasAll_bind (asc_all hn h _ _) fun m ζ => ?_
  split
  · exact h
  · split
    · refine ⟨⟨h.at hn _, h.at hn _⟩, fun b => ?_⟩
      cases b with
      | true => exact h
      | false => exact descPart_all hn (h.rev _ _) _ _
    · exact descPart_all hn h _ _
theorem place_all {p : Array Nat} (h : Good n p) (k : Nat) : ∀ (f l r : Nat), kasAll n (kas_place p k f l r) (fun ζ => True)
  | 0, _, _ => trivial
  | f + 1, l, r => by
    unfold kas_place
    split
    · trivial
    · refine ⟨⟨h.at hn _, h.at hn _⟩, fun b => ?_⟩
      cases b with
      | true => exact place_all h k f _ _
      | false => exact place_all h k f _ _
theorem bin_all : ∀ (f : Nat) (p : Array Nat) (k : Nat), Good n p → kasAll n (kas_bin f p k) (Good n)
  | 0, _, _, h => h
  | f + 1, p, k, h => kasAll_bind (place_all hn h k _ _ _) fun l ζ => bin_all f _ _ (h.perm (bubble_perm _ _ _))
theorem sort_all : kasAll n (kas_sort n) (Good n) := by
  refine kasAll_bind (count_all hn ⟨fun x hx => by simpa using hx, by simp⟩ _) fun r hr => ?_
  split
  · exact bin_all hn _ _ _ hr
  · exact hr
end

noncomputable def rowLt (r q : Row3) : Bool := if r.s = q.s then (if r.a = q.a then (if r.b = q.b then false else decide (r.b < q.b)) else decide (r.a < q.a)) else decide (r.s.cps.toList < q.s.cps.toList)
noncomputable def row0 : Row3 := ⟨Str.empty, 0, 0⟩
/- what sorted makes of rows -/
noncomputable def sortRows (rs : List Row3) : List Row3 := if rs.length < 2 then rs else (kasRun (fun i j => rowLt (rs.getD i row0) (rs.getD j row0)) (kas_sort rs.length)).toList.map fun i => rs.getD i row0
end Mine.Internal
end
section
open PySem PySem.W PySem.Calls PyProof.Rows
set_option maxRecDepth 100000
namespace Mine.Internal

section
variable {prog : Program} {w : World} {A : Around} {E : Value → Shared → Prop} {s : Shared} {a : Addr} {vs out : List Value} {n : Nat}

theorem lsort {P : PySem.Fin → Shared → Prop} (ho : s.heap.get? a = some (seqObj "list" vs.toArray n)) (h64 : vs.length < 64) (hol : out.length = vs.length) (h1 : vs.length < 2 → out = vs)
    (H : 2 ≤ vs.length → ∀ s', (∀ b o, b ≠ a → s.heap.get? b = some o → s'.heap.get? b = some o) → wpAny (model prog w) A (keyKind' vs.toArray) (fun κ s1 => s1 = s' ∧ (kas_sort vs.length).kasWp (kas_ask prog w A κ vs) (fun p s2 => s2 = s' ∧ (p.toList.map fun i => vs.getD i Value.none) = out) s') (fun ζ ζ => False) s')
    (hq : ∀ h' c, (∀ b o, b ≠ a → s.heap.get? b = some o → h'.get? b = some o) → h'.get? a = some (seqObj "list" out.toArray c) → P (.done (.ret .none)) { s with heap := h' }) :
    wpAny (model prog w) A (Builtin.«list.sort» ⟨[.ref a], []⟩) P E s := by
  have s1 := Heap.SameBut.update s.heap a (Obj.mapSeq fun ζ => (#[] : Array Value))
  obtain ⟨e1, ho1⟩ : ∃ e1, (s.heap.update a (Obj.mapSeq fun ζ => (#[] : Array Value))).get? a = some (seqObj "list" #[] e1) := ⟨_, get?_update_seq ho fun ζ => #[]⟩
  rw [list_sort_plain]
  refine wpAny_bind (listItems_at ho rfl ?_)
  refine wpAny_bind (listUpdate_at ho rfl ?_ (by rw [List.size_toArray, sizeLine_eq]; omega) (Nat.zero_le _))
  refine wpAny_bind (seqEpoch_at ho1 rfl ?_)
  refine wpAny_bind (wpAny_newTuple ?_ (by show vs.length ≤ _; rw [sizeLine_eq]; omega))
  refine wpAny_bind (wpAny_newList ?_ (Nat.zero_le _))
  refine wpAny_holding ?_
  generalize hh : ((s.heap.update a (Obj.mapSeq fun ζ => (#[] : Array Value))).push (seqObj "tuple" vs.toArray 0)).push (seqObj "list" #[] 0) = h3
  have k3 : ∀ b o, b ≠ a → s.heap.get? b = some o → h3.get? b = some o := fun b o nb e => by
    rw [← hh]
    exact Heap.get?_push_of_some _ (Heap.get?_push_of_some _ ((s1.2 b nb).trans e))
  have a3 : h3.get? a = some (seqObj "list" #[] e1) := by
    rw [← hh]
    exact Heap.get?_push_of_some _ (Heap.get?_push_of_some _ ho1)
  show wpAny (model prog w) A _ P E { s with heap := h3 }
  have fin : ∀ st', (arrOf st').map (·.2) = out.toArray → failedOf st' = none → wpAny (model prog w) A (do
      let touched := (← seqEpoch a) != e1
      Builtin.List.listUpdate (.ref a) fun ζ => (arrOf st').map (·.2)
      if let some e := failedOf st' then rule "list.sort.comparison-raised"; throw e
      if touched then rule "list.sort.modified"; raiseError "ValueError" "list modified during sort"
      ret .none) P E { s with heap := h3 } := fun st' hs hf => by
    refine wpAny_bind (seqEpoch_at a3 rfl ?_)
    rw [hs]
    refine wpAny_bind (listUpdate_at a3 rfl ?_ (Nat.zero_le _) (by show out.toArray.size ≤ _; rw [List.size_toArray, sizeLine_eq]; omega))
    rw [hf]
    simp only [bne_self_eq_false, Bool.false_eq_true, if_false]
    have s2 := Heap.SameBut.update h3 a (Obj.mapSeq fun ζ => out.toArray)
    obtain ⟨c2, hc2⟩ : ∃ c2, (h3.update a (Obj.mapSeq fun ζ => out.toArray)).get? a = some (seqObj "list" out.toArray c2) := ⟨_, get?_update_seq a3 fun ζ => out.toArray⟩
    exact wpAny_pure (hq _ c2 (fun b o nb e => (s2.2 b nb).trans (k3 b o nb e)) hc2)
  dsimp only
  by_cases h2 : vs.length < 2
  · have hn2 : vs.toArray.size < 2 := by rw [List.size_toArray]; exact h2
    rw [if_pos hn2, if_pos hn2]
    refine wpAny_bind (wpAny_pure ?_)
    refine wpAny_bind (wpAny_pure ?_)
    refine fin _ ?_ rfl
    rw [h1 h2]
    show (vs.toArray.zip vs.toArray).map (·.2) = _
    simp
    exact List.map_snd_zip (Nat.le_refl _)
  · have hn2 : ¬ vs.toArray.size < 2 := by rw [List.size_toArray]; exact h2
    rw [if_neg hn2, if_neg hn2]
    refine wpAny_bind (wpAny_mono (H (by omega) { s with heap := h3 } k3) (fun κ s0 hk => ?_) fun ζ ζ x => x.elim)
    obtain ⟨rfl, hk⟩ := hk
    refine wpAny_bind (wpAny_mono (kat_run (Q := fun st' s' => s' = { s with heap := h3 } ∧ (arrOf st').map (·.2) = out.toArray ∧ failedOf st' = none) rfl (by omega) h64 (fun p' st' s' a1 a2 a3 a4 => ⟨a4.1, ?_, a3⟩) hk) ?_ fun ζ ζ e => e)
    · rw [kat_snds rfl a2, a4.2]
    · rintro ⟨⟨⟩, st'⟩ s' ⟨rfl, hs, hf⟩
      exact fin st' hs hf
end
end Mine.Internal
end
section
open PySem PySem.W PySem.Calls PyProof.Rows
set_option maxRecDepth 100000
namespace Mine.Internal

section
variable {c : Cy} {μ : Nat → Addr} {σ : St} {s : Shared} {A : Around} {E : Value → Shared → Prop} {D n : Nat} {h h' : Heap}

theorem row_shape {r : Row3} {v : Value} (hr : VRel μ n h (row3V r) v) : ∃ a k xs t u w, v = .ref a ∧ h.get? a = some (tobj xs k) ∧ xs.toList = [.str r.s t, .int r.a u, .int r.b w] := by
  obtain ⟨a, xs, k, rfl, g, v1, w1, e1, ⟨t, rfl⟩, v2, w2, e2, ⟨u, rfl⟩, v3, w3, e3, ⟨w, rfl⟩, e4⟩ := hr
  exact ⟨a, k, xs, t, u, w, rfl, g, by rw [e1, e2, e3, show w3 = [] from e4]⟩

theorem row_lt {r q : Row3} {x y : Value} {C : Bool → Shared → Prop} (rx : VRel μ n s.heap (row3V r) x) (ry : VRel μ n s.heap (row3V q) y) (hq : C (rowLt r q) s) : wpAny c.M A (keyLt' (tuples' true) x y) C (fun ζ ζ => False) s := by
  obtain ⟨a, k, xs, t, u, w, rfl, g, ex⟩ := row_shape rx
  obtain ⟨a', k', ys, t', u', w', rfl, g', ey⟩ := row_shape ry
  refine kat_lt g rfl g' rfl ?_
  have z : (decide (xs.size < ys.size)) = false := by
    have h1 : xs.size = 3 := by rw [← Array.length_toList, ex]; rfl
    have h2 : ys.size = 3 := by rw [← Array.length_toList, ey]; rfl
    rw [h1, h2]; rfl
  rw [z, ex, ey]
  unfold rowLt at hq
  refine kat_cons (wpAny_eqBool_str ?_)
  by_cases e1 : r.s = q.s
  · rw [if_pos e1] at hq
    rw [decide_eq_true e1]
    refine kat_yes (kat_cons (wpAny_eqBool_int ?_))
    by_cases e2 : r.a = q.a
    · rw [if_pos e2] at hq
      rw [show (r.a == q.a) = true from beq_iff_eq.mpr e2]
      refine kat_yes (kat_cons (wpAny_eqBool_int ?_))
      by_cases e3 : r.b = q.b
      · rw [if_pos e3] at hq
        rw [show (r.b == q.b) = true from beq_iff_eq.mpr e3]
        exact kat_yes (kat_nil hq)
      · rw [if_neg e3] at hq
        rw [show (r.b == q.b) = false from beq_eq_false_iff_ne.mpr e3]
        exact kat_no (kat_one _ _ (lt_int (show W.BoolBack C (Value.bool _) s from hq)))
    · rw [if_neg e2] at hq
      rw [show (r.a == q.a) = false from beq_eq_false_iff_ne.mpr e2]
      exact kat_no (kat_one _ _ (lt_int (show W.BoolBack C (Value.bool _) s from hq)))
  · rw [if_neg e1] at hq
    rw [decide_eq_false e1]
    exact kat_no (oneLt_str hq)

theorem row3_eq {v : V} {r : Row3} (h : row3? v = some r) : v = row3V r := by
  cases v with
  | tup l =>
    cases l with
    | nil => exact no_some h
    | cons x l =>
      obtain ⟨s, h1, h⟩ := Option.bind_eq_some_iff.mp (show ((vS x).bind fun s => (pair2 l).map fun p => (⟨s, p.1, p.2⟩ : Row3)) = some r from h)
      obtain ⟨p, h2, rfl⟩ := Option.map_eq_some_iff.mp h
      rw [vS_eq h1, pair2_eq h2]; rfl
  | _ => exact no_some h
theorem rows_of {l : List V} : ∀ {rs : List Row3}, rows3 l = some rs → l = rs.map row3V := by
  induction l with
  | nil => intro rs h; exact sinj h ▸ rfl
  | cons x l ih =>
    intro rs h
    obtain ⟨r, h1, h⟩ := Option.bind_eq_some_iff.mp (show ((row3? x).bind fun x => (rows3 l).map fun l => x :: l) = some rs from h)
    obtain ⟨q, h2, rfl⟩ := Option.map_eq_some_iff.mp h
    rw [row3_eq h1, ih h2]; rfl

noncomputable def firstOf : Row3 → Tok → Value := fun r t => .str r.s t
theorem tups_of : ∀ {rs : List Row3} {vs : List Value}, VsRel μ n h (rs.map row3V) vs → ∃ fs, KatTups h vs fs ∧ fs.length = rs.length ∧ ∀ f ∈ fs, ∃ z t, f = .str z t
  | [], vs, r => ⟨[], by rw [show vs = [] from r]; exact KatTups.nil, rfl, fun ζ h => by cases h⟩
  | x :: rs, vs, ⟨v, ws, e, rv, r⟩ => by
    obtain ⟨fs, h1, h2, h3⟩ := tups_of r
    obtain ⟨a, k, xs, t, u, w, rfl, g, ex⟩ := row_shape rv
    subst e
    refine ⟨.str x.s t :: fs, KatTups.cons g rfl rfl (by rw [← Array.getElem?_toList, ex]; rfl) h1, by simp [h2], fun f hf => ?_⟩
    rcases List.mem_cons.mp hf with rfl | hf
    · exact ⟨_, _, rfl⟩
    · exact h3 f hf

theorem getD_rel : ∀ {rs : List Row3} {vs : List Value}, VsRel μ n h (rs.map row3V) vs → ∀ i, i < rs.length → VRel μ n h (row3V (rs.getD i row0)) (vs.getD i Value.none)
  | [], _, _, i, hi => by simp at hi
  | x :: rs, _, ⟨v, ws, e, rv, r⟩, 0, _ => by rw [e]; exact rv
  | x :: rs, _, ⟨v, ws, e, rv, r⟩, i + 1, hi => by
    rw [e]
    have := getD_rel r i (by simpa using hi)
    simpa using this
theorem map_rel {rs : List Row3} {vs : List Value} (r : VsRel μ n h (rs.map row3V) vs) : ∀ {p : List Nat}, (∀ i ∈ p, i < rs.length) → VsRel μ n h ((p.map fun i => rs.getD i row0).map row3V) (p.map fun i => vs.getD i Value.none)
  | [], _ => rfl
  | i :: p, hp => ⟨_, _, rfl, getD_rel r i (hp i (.head _)), map_rel r fun j hj => hp j (.tail _ hj)⟩

/- the rows in their new order, as values -/
noncomputable def sortVals (rs : List Row3) (vs : List Value) : List Value := if rs.length < 2 then vs else (kasRun (fun i j => rowLt (rs.getD i row0) (rs.getD j row0)) (kas_sort rs.length)).toList.map fun i => vs.getD i Value.none

theorem sort_op : ∀ D, SortOp c D sortRows := by
  intro D A μ σ s i l rs Q E H R g hr hlen q
  obtain rfl := rows_of hr
  obtain ⟨xs, k, hl, rr⟩ := R.obj _ _ g
  have hvl : xs.toList.length = rs.length := by rw [rr.length, List.length_map]
  have hIs : s.heap.IsList (μ (2 * i)) xs.toList.toArray := ⟨_, hl, rfl, k, rfl⟩
  refine Calls.call_function_entry kind_sorted plain_sorted entry_sorted (args_sorted1 _) ?_
  unfold Builtin.«sorted»
  refine wpAny_bind (m := checkCount "sorted" 1 1 _) (wpAny_pure ?_)
  refine wpAny_bind (collect_list hIs ?_ (by rw [sizeLine_eq]; omega))
  generalize hh : (s.heap.push (seqObj "list" #[] 0)).update s.heap.objs.size (Obj.mapSeq (· ++ xs.toList.toArray)) = h1
  have k1 : ∀ b o, s.heap.get? b = some o → h1.get? b = some o := fun b o e => by
    rw [← hh, Heap.get?_update_ne _ _ _ _ (Nat.ne_of_lt (Heap.lt_size e))]
    exact Heap.get?_push_of_some _ e
  refine wpAny_bind (wpAny_newList ?_ (by rw [sizeLine_eq]; omega))
  have k2 : ∀ b o, s.heap.get? b = some o → (h1.push { cls := .type "list", data := .seq xs.toList.toArray }).get? b = some o := fun b o e => Heap.get?_push_of_some _ (k1 b o e)
  have hoL : (h1.push { cls := .type "list", data := .seq xs.toList.toArray }).get? h1.objs.size = some (seqObj "list" xs.toList.toArray 0) := Heap.get?_push_size _ rfl
  have nD : s.heap.get? h1.objs.size = none := by
    cases e : s.heap.get? h1.objs.size with
    | none => rfl
    | some o => exact absurd (Heap.lt_size (k1 _ _ e)) (Nat.lt_irrefl _)
  refine wpAny_bind (wpAny_holding (wpAny_call_entry slot_list_sort ⟨_, hoL, rfl⟩ entry_list_sort ?_ (args_list_sort _)))
  have rall : VsRel μ σ.len s.heap (rs.map row3V) xs.toList := rr
  have pos : 2 ≤ xs.toList.length → 0 < rs.length := fun h => by omega
  refine lsort (s := { s with heap := h1.push { cls := .type "list", data := .seq xs.toList.toArray } }) (out := sortVals rs xs.toList) hoL (by omega) ?_ ?_ ?_ ?_
  · unfold sortVals
    split
    · rfl
    · rw [List.length_map, Array.length_toList, (kasAll_run (sort_all (n := rs.length) (by omega))).2, hvl]
  · intro hlt
    unfold sortVals
    rw [if_pos (by omega)]
  · intro h2 s' ks
    have kk : ∀ b o, s.heap.get? b = some o → s'.heap.get? b = some o := fun b o e => ks b o (fun z => by rw [z, nD] at e; cases e) (k2 b o e)
    have r' : VsRel μ σ.len s'.heap (rs.map row3V) xs.toList := rall.mono (Nat.le_refl _) (fun ζ ζ => rfl) (TKeep.of_keeps kk)
    obtain ⟨fs, f1, f2, f3⟩ := tups_of r'
    refine kat_kind (T := .type "str") f1 (by rw [f2]; exact pos h2) (fun v hv => ?_) (by decide) ⟨rfl, ?_⟩
    · obtain ⟨z, t, rfl⟩ := f3 v hv
      exact .now
    · rw [show (Value.type "str" != Value.type "tuple") = true from by decide, hvl]
      refine kas_pure (n := rs.length) (R := Good rs.length) (lt := fun i j => rowLt (rs.getD i row0) (rs.getD j row0)) (fun i j C hi hj hC => ?_) (sort_all (pos h2)) ⟨rfl, ?_⟩
      · exact row_lt (getD_rel r' i hi) (getD_rel r' j hj) hC
      · unfold sortVals
        rw [if_neg (by omega)]
  · intro h' c2 kh hD
    have kall : ∀ b o, s.heap.get? b = some o → h'.get? b = some o := fun b o e => kh b o (fun z => by rw [z, nD] at e; cases e) (k2 b o e)
    have rnew : VsRel μ σ.len h' ((sortRows rs).map row3V) (sortVals rs xs.toList) := by
      have r' := rall.mono (h' := h') (Nat.le_refl _) (fun ζ ζ => rfl) (TKeep.of_keeps kall)
      unfold sortVals sortRows
      split
      · exact r'
      · exact map_rel r' fun i hi => (kasAll_run (lt := fun i j => rowLt (rs.getD i row0) (rs.getD j row0)) (sort_all (n := rs.length) (by omega))).1 i (by simpa using hi)
    obtain ⟨R', S'⟩ := R.add (o := .list ((sortRows rs).map row3V)) (a := h1.objs.size) (d := 0) kall nD (fun z => by cases z)
      ⟨(sortVals rs xs.toList).toArray, c2, by rw [ext_even]; exact hD, rnew.mono (Nat.le_succ _) (fun i hi => ext_lt (by omega)) (TKeep.of_keeps fun ζ ζ e => e)⟩ (tk := s.toks)
    exact ⟨_, rfl, wpAny_pure ⟨_, rfl, _, _, _, q, R', S', by rw [St.len_add]; omega, by rw [ext_even]⟩⟩
end
end Mine.Internal
end
section
open PySem PySem.W PySem.Calls PyProof.Rows
namespace Mine.Internal
theorem ops {c : Cy} (C0 : COk c) (at_ : c.T.at_ = atNames) (XF : XFacts c) : Ops c sortRows where
  sort := sort_op
  exc := exc_op C0 at_ XF
  raise := raise_op C0 XF
  leave := leave_op
  try_ := try_thm C0 XF
end Mine.Internal
end
section
open PySem PySem.W PySem.Calls PyProof.Rows
set_option maxRecDepth 100000
namespace Mine.Internal
/- __init__ -/
noncomputable def f56 : FDef := ⟨[0, 1], (.cons (.setattr (.loc 0) 31 (.loc 1)) .nil)⟩
/- fixed_atoms -/
noncomputable def f0 : FDef := ⟨[], (.cons (.ret (.tup (.cons (.val (.str "[]")) (.cons (.val (.str ".")) (.cons (.val (.str "{}")) (.cons (.val (.str "-")) (.cons (.val (.str "+")) (.cons (.val (.str "*")) (.cons (.val (.str "/")) (.cons (.val (.str ",")) (.cons (.val (.str "|")) (.cons (.val (.str ";")) (.cons (.val (.str "->")) (.cons (.val (.str "\\+")) (.cons (.val (.str ":-")) (.cons (.val (.str "?-")) (.cons (.val (.str "-->")) (.cons (.val (.str "!")) (.cons (.val (.str "true")) (.cons (.val (.str "fail")) (.cons (.val (.str "false")) (.cons (.val (.str "call")) (.cons (.val (.str "=")) (.cons (.val (.str "^")) (.cons (.val (.str "error")) (.cons (.val (.str "")) (.cons (.val (.str "end_of_file")) (.cons (.val (.str "system")) (.cons (.val (.str "$VAR")) (.cons (.val (.str "catch")) (.cons (.val (.str "throw")) .nil))))))))))))))))))))))))))))))) .nil)⟩
/- fixed_functors -/
noncomputable def f1 : FDef := ⟨[], (.cons (.ret (.tup (.cons (.tup (.cons (.val (.str ".")) (.cons (.val (.int (2))) .nil))) (.cons (.tup (.cons (.val (.str ",")) (.cons (.val (.int (2))) .nil))) (.cons (.tup (.cons (.val (.str ";")) (.cons (.val (.int (2))) .nil))) (.cons (.tup (.cons (.val (.str "->")) (.cons (.val (.int (2))) .nil))) (.cons (.tup (.cons (.val (.str "\\+")) (.cons (.val (.int (1))) .nil))) (.cons (.tup (.cons (.val (.str ":-")) (.cons (.val (.int (2))) .nil))) (.cons (.tup (.cons (.val (.str ":-")) (.cons (.val (.int (1))) .nil))) (.cons (.tup (.cons (.val (.str "?-")) (.cons (.val (.int (1))) .nil))) (.cons (.tup (.cons (.val (.str "-->")) (.cons (.val (.int (2))) .nil))) (.cons (.tup (.cons (.val (.str "{}")) (.cons (.val (.int (1))) .nil))) (.cons (.tup (.cons (.val (.str "=")) (.cons (.val (.int (2))) .nil))) (.cons (.tup (.cons (.val (.str "^")) (.cons (.val (.int (2))) .nil))) (.cons (.tup (.cons (.val (.str "-")) (.cons (.val (.int (1))) .nil))) (.cons (.tup (.cons (.val (.str "-")) (.cons (.val (.int (2))) .nil))) (.cons (.tup (.cons (.val (.str "+")) (.cons (.val (.int (2))) .nil))) (.cons (.tup (.cons (.val (.str "/")) (.cons (.val (.int (2))) .nil))) (.cons (.tup (.cons (.val (.str "error")) (.cons (.val (.int (2))) .nil))) (.cons (.tup (.cons (.val (.str "$VAR")) (.cons (.val (.int (1))) .nil))) (.cons (.tup (.cons (.val (.str "catch")) (.cons (.val (.int (3))) .nil))) (.cons (.tup (.cons (.val (.str "throw")) (.cons (.val (.int (1))) .nil))) (.cons (.tup (.cons (.val (.str "!")) (.cons (.val (.int (0))) .nil))) (.cons (.tup (.cons (.val (.str "true")) (.cons (.val (.int (0))) .nil))) (.cons (.tup (.cons (.val (.str "fail")) (.cons (.val (.int (0))) .nil))) (.cons (.tup (.cons (.val (.str "false")) (.cons (.val (.int (0))) .nil))) (.cons (.tup (.cons (.val (.str "call")) (.cons (.val (.int (1))) .nil))) (.cons (.tup (.cons (.val (.str "call")) (.cons (.val (.int (2))) .nil))) (.cons (.tup (.cons (.val (.str "call")) (.cons (.val (.int (3))) .nil))) (.cons (.tup (.cons (.val (.str "call")) (.cons (.val (.int (4))) .nil))) (.cons (.tup (.cons (.val (.str "call")) (.cons (.val (.int (5))) .nil))) (.cons (.tup (.cons (.val (.str "call")) (.cons (.val (.int (6))) .nil))) (.cons (.tup (.cons (.val (.str "call")) (.cons (.val (.int (7))) .nil))) (.cons (.tup (.cons (.val (.str "call")) (.cons (.val (.int (8))) .nil))) .nil)))))))))))))))))))))))))))))))))) .nil)⟩
/- __init__ -/
noncomputable def f50 : FDef := ⟨[0], (.cons (.setattr (.loc 0) 0 (.list .nil)) (.cons (.setattr (.loc 0) 1 (.dict .nil)) (.cons (.setattr (.loc 0) 2 (.list .nil)) (.cons (.setattr (.loc 0) 3 (.dict .nil)) (.cons (.for 1 (.call (.usr 0) .nil) (.cons (.expr (.mcall (.loc 0) 36 (.cons (.loc 1) .nil))) .nil)) (.cons (.for 2 (.call (.usr 1) .nil) (.cons (.expr (.mcall (.loc 0) 38 (.cons (.sub (.loc 2) (.val (.int (0)))) (.cons (.sub (.loc 2) (.val (.int (1)))) .nil)))) .nil)) .nil))))))⟩
/- atom -/
noncomputable def f136 : FDef := ⟨[0, 1], (.cons (.assign 2 (.mcall (.attr (.loc 0) 1) 34 (.cons (.loc 1) (.cons (.neg (.val (.int (1)))) .nil)))) (.cons (.ite (.cmp .GtE (.loc 2) (.val (.int (0)))) (.cons (.ret (.loc 2)) .nil) .nil) (.cons (.assign 3 (.call .len (.cons (.attr (.loc 0) 0) .nil))) (.cons (.expr (.mcall (.attr (.loc 0) 0) 33 (.cons (.loc 1) .nil))) (.cons (.setsub (.attr (.loc 0) 1) (.loc 1) (.loc 3)) (.cons (.ret (.loc 3)) .nil))))))⟩
/- text -/
noncomputable def f137 : FDef := ⟨[0, 1], (.cons (.ret (.sub (.attr (.loc 0) 0) (.loc 1))) .nil)⟩
/- functor -/
noncomputable def f110 : FDef := ⟨[0, 1, 2], (.cons (.assign 3 (.tup (.cons (.loc 1) (.cons (.loc 2) .nil)))) (.cons (.assign 4 (.mcall (.attr (.loc 0) 3) 34 (.cons (.loc 3) (.cons (.neg (.val (.int (1)))) .nil)))) (.cons (.ite (.cmp .GtE (.loc 4) (.val (.int (0)))) (.cons (.ret (.loc 4)) .nil) .nil) (.cons (.assign 5 (.call .len (.cons (.attr (.loc 0) 2) .nil))) (.cons (.expr (.mcall (.attr (.loc 0) 2) 33 (.cons (.loc 3) .nil))) (.cons (.setsub (.attr (.loc 0) 3) (.loc 3) (.loc 5)) (.cons (.ret (.loc 5)) .nil)))))))⟩
/- func -/
noncomputable def f138 : FDef := ⟨[0, 1, 2], (.cons (.ret (.mcall (.loc 0) 10 (.cons (.mcall (.loc 0) 36 (.cons (.loc 1) .nil)) (.cons (.loc 2) .nil)))) .nil)⟩
/- name -/
noncomputable def f139 : FDef := ⟨[0, 1], (.cons (.ret (.sub (.sub (.attr (.loc 0) 2) (.loc 1)) (.val (.int (0))))) .nil)⟩
/- arity -/
noncomputable def f104 : FDef := ⟨[0, 1], (.cons (.ret (.sub (.sub (.attr (.loc 0) 2) (.loc 1)) (.val (.int (1))))) .nil)⟩
/- indicator -/
noncomputable def f2 : FDef := ⟨[0, 1], (.cons (.ret (.tup (.cons (.val (.str "s")) (.cons (.val (.int (15))) (.cons (.tup (.cons (.tup (.cons (.val (.str "a")) (.cons (.mcall (.loc 0) 39 (.cons (.loc 1) .nil)) .nil))) (.cons (.tup (.cons (.val (.str "i")) (.cons (.mcall (.loc 0) 4 (.cons (.loc 1) .nil)) .nil))) .nil))) .nil))))) .nil)⟩
/- system_error -/
noncomputable def f3 : FDef := ⟨[0], (.cons (.ret (.call (.cls 6) (.cons (.tup (.cons (.val (.str "s")) (.cons (.val (.int (16))) (.cons (.tup (.cons (.loc 0) (.cons (.tup (.cons (.val (.str "a")) (.cons (.val (.int (25))) .nil))) .nil))) .nil)))) .nil))) .nil)⟩
/- formal_of -/
noncomputable def f4 : FDef := ⟨[0, 1, 2], (.cons (.assign 3 (.list .nil)) (.cons (.for 4 (.loc 2) (.cons (.expr (.mcall (.loc 3) 33 (.cons (.ite (.call .isStr (.cons (.loc 4) .nil)) (.tup (.cons (.val (.str "a")) (.cons (.mcall (.loc 0) 36 (.cons (.loc 4) .nil)) .nil))) (.loc 4)) .nil))) .nil)) (.cons (.ret (.tup (.cons (.val (.str "s")) (.cons (.mcall (.loc 0) 38 (.cons (.loc 1) (.cons (.call .len (.cons (.loc 3) .nil)) .nil))) (.cons (.call .tuple (.cons (.loc 3) .nil)) .nil))))) .nil)))⟩
/- permission_error -/
noncomputable def f5 : FDef := ⟨[0, 1, 2, 3], (.cons (.ret (.call (.usr 3) (.cons (.call (.usr 4) (.cons (.loc 0) (.cons (.val (.str "permission_error")) (.cons (.tup (.cons (.loc 1) (.cons (.loc 2) (.cons (.loc 3) .nil)))) .nil)))) .nil))) .nil)⟩
/- matching -/
noncomputable def f6 : FDef := ⟨[0, 1], (.cons (.ite (.bop .Or (.cons (.cmp .Eq (.loc 0) (.val (.tup [(.str "var")]))) (.cons (.cmp .Eq (.loc 1) (.val (.tup [(.str "var")]))) .nil))) (.cons (.ret (.val (.bool true))) .nil) .nil) (.cons (.ret (.cmp .Eq (.loc 0) (.loc 1))) .nil))⟩
/- all_variable -/
noncomputable def f7 : FDef := ⟨[0], (.cons (.for 1 (.loc 0) (.cons (.ite (.cmp .NotEq (.attr (.loc 1) 28) (.val (.tup [(.str "var")]))) (.cons (.ret (.val (.bool false))) .nil) .nil) .nil)) (.cons (.ret (.val (.bool true))) .nil))⟩
/- __init__ -/
noncomputable def f51 : FDef := ⟨[0, 1, 2], (.cons (.setattr (.loc 0) 4 (.loc 1)) (.cons (.setattr (.loc 0) 5 (.loc 2)) (.cons (.setattr (.loc 0) 6 (.list .nil)) (.cons (.setattr (.loc 0) 7 (.list .nil)) (.cons (.setattr (.loc 0) 8 (.dict .nil)) (.cons (.setattr (.loc 0) 9 (.call .len (.cons (.loc 2) .nil))) .nil))))))⟩
/- chain_rows -/
noncomputable def f240 : FDef := ⟨[0, 1], (.cons (.assign 2 (.list (.cons (.tup (.cons (.val (.str "try")) (.cons (.sub (.loc 1) (.val (.int (0)))) (.cons (.attr (.loc 0) 4) .nil)))) .nil))) (.cons (.assign 3 (.bin .Sub (.call .len (.cons (.loc 1) .nil)) (.val (.int (1))))) (.cons (.for 4 (.call .range (.cons (.val (.int (1))) (.cons (.loc 3) .nil))) (.cons (.expr (.mcall (.loc 2) 33 (.cons (.tup (.cons (.val (.str "retry")) (.cons (.sub (.loc 1) (.loc 4)) .nil))) .nil))) .nil)) (.cons (.expr (.mcall (.loc 2) 33 (.cons (.tup (.cons (.val (.str "trust")) (.cons (.sub (.loc 1) (.loc 3)) .nil))) .nil))) (.cons (.ret (.loc 2)) .nil)))))⟩
/- finish -/
noncomputable def f241 : FDef := ⟨[0], (.cons (.for 1 (.attr (.loc 0) 7) (.cons (.expr (.mcall (.attr (.loc 0) 6) 33 (.cons (.tup (.cons (.val (.str "label")) (.cons (.sub (.loc 1) (.val (.int (0)))) .nil))) .nil))) (.cons (.for 2 (.mcall (.loc 0) 40 (.cons (.sub (.loc 1) (.val (.int (1)))) .nil)) (.cons (.expr (.mcall (.attr (.loc 0) 6) 33 (.cons (.loc 2) .nil))) .nil)) .nil))) (.cons (.for 3 (.call .range (.cons (.call .len (.cons (.attr (.loc 0) 5) .nil)) .nil)) (.cons (.expr (.mcall (.attr (.loc 0) 6) 33 (.cons (.tup (.cons (.val (.str "label")) (.cons (.loc 3) .nil))) .nil))) (.cons (.for 2 (.attr (.sub (.attr (.loc 0) 5) (.loc 3)) 29) (.cons (.expr (.mcall (.attr (.loc 0) 6) 33 (.cons (.loc 2) .nil))) .nil)) .nil))) (.cons (.ret (.attr (.loc 0) 6)) .nil)))⟩
/- small_block -/
noncomputable def f8 : FDef := ⟨[0], (.cons (.ite (.cmp .Eq (.call .len (.cons (.loc 0) .nil)) (.val (.int (0)))) (.cons (.ret (.list (.cons (.tup (.cons (.val (.str "fail")) .nil)) .nil))) .nil) .nil) (.cons (.ret (.call .list (.cons (.attr (.sub (.loc 0) (.val (.int (0)))) 29) .nil))) .nil))⟩
/- chain_block -/
noncomputable def f9 : FDef := ⟨[0, 1, 2], (.cons (.ite (.cmp .Lt (.call .len (.cons (.loc 2) .nil)) (.val (.int (2)))) (.cons (.ret (.call (.usr 8) (.cons (.loc 2) .nil))) .nil) .nil) (.cons (.assign 3 (.call (.cls 1) (.cons (.mcall (.loc 0) 4 (.cons (.loc 1) .nil)) (.cons (.loc 2) .nil)))) (.cons (.for 4 (.mcall (.loc 3) 40 (.cons (.call .list (.cons (.call .range (.cons (.call .len (.cons (.loc 2) .nil)) .nil)) .nil)) .nil)) (.cons (.expr (.mcall (.attr (.loc 3) 6) 33 (.cons (.loc 4) .nil))) .nil)) (.cons (.ret (.mcall (.loc 3) 41 .nil)) .nil))))⟩
/- index_block -/
noncomputable def f10 : FDef := ⟨[0, 1, 2], (.cons (.ite (.cmp .Lt (.call .len (.cons (.loc 2) .nil)) (.val (.int (2)))) (.cons (.ret (.call (.usr 8) (.cons (.loc 2) .nil))) .nil) .nil) (.cons (.ite (.bop .Or (.cons (.cmp .Eq (.mcall (.loc 0) 4 (.cons (.loc 1) .nil)) (.val (.int (0)))) (.cons (.call (.usr 7) (.cons (.loc 2) .nil)) .nil))) (.cons (.ret (.call (.usr 9) (.cons (.loc 0) (.cons (.loc 1) (.cons (.loc 2) .nil))))) .nil) .nil) (.cons (.assign 3 (.call (.cls 1) (.cons (.mcall (.loc 0) 4 (.cons (.loc 1) .nil)) (.cons (.loc 2) .nil)))) (.cons (.expr (.mcall (.loc 3) 42 (.cons (.call .list (.cons (.call .range (.cons (.call .len (.cons (.loc 2) .nil)) .nil)) .nil)) .nil))) (.cons (.ret (.mcall (.loc 3) 41 .nil)) .nil)))))⟩
/- boot_code -/
noncomputable def f11 : FDef := ⟨[], (.cons (.assign 0 (.tup (.cons (.val (.str "y")) (.cons (.val (.int (1))) .nil)))) (.cons (.assign 1 (.list (.cons (.tup (.cons (.val (.str "call")) (.cons (.val (.int (24))) (.cons (.val (.int (0))) .nil)))) (.cons (.tup (.cons (.val (.str "halt")) .nil)) (.cons (.tup (.cons (.val (.str "fail")) .nil)) (.cons (.tup (.cons (.val (.str "catch_push")) .nil)) (.cons (.tup (.cons (.val (.str "allocate")) (.cons (.val (.int (1))) .nil))) (.cons (.tup (.cons (.val (.str "mark")) (.cons (.loc 0) .nil))) (.cons (.tup (.cons (.val (.str "call")) (.cons (.val (.int (24))) (.cons (.val (.int (1))) .nil)))) (.cons (.tup (.cons (.val (.str "catch_exit")) (.cons (.loc 0) .nil))) (.cons (.tup (.cons (.val (.str "deallocate")) .nil)) (.cons (.tup (.cons (.val (.str "proceed")) .nil)) (.cons (.tup (.cons (.val (.str "catch_fail")) .nil)) (.cons (.tup (.cons (.val (.str "dyn_retry")) .nil)) (.cons (.tup (.cons (.val (.str "proceed")) .nil)) .nil))))))))))))))) (.cons (.for 2 (.call .range (.cons (.val (.int (1))) (.cons (.bin .Add (.val (.int (8))) (.val (.int (1)))) .nil))) (.cons (.expr (.mcall (.loc 1) 33 (.cons (.tup (.cons (.val (.str "meta_call")) (.cons (.loc 2) .nil))) .nil))) .nil)) (.cons (.ret (.loc 1)) .nil))))⟩
/- shapes -/
noncomputable def f12 : FDef := ⟨[], (.cons (.ret (.cdict [⟨"get_variable", "RX"⟩, ⟨"get_value", "RX"⟩, ⟨"get_constant", "CX"⟩, ⟨"get_list", "X"⟩, ⟨"get_structure", "FX"⟩, ⟨"unify_variable", "R"⟩, ⟨"unify_value", "R"⟩, ⟨"unify_local_value", "R"⟩, ⟨"unify_constant", "C"⟩, ⟨"unify_void", "N"⟩, ⟨"put_variable", "RX"⟩, ⟨"put_void", "X"⟩, ⟨"put_value", "RX"⟩, ⟨"put_unsafe_value", "YX"⟩, ⟨"put_constant", "CX"⟩, ⟨"put_list", "X"⟩, ⟨"put_structure", "FX"⟩, ⟨"set_variable", "R"⟩, ⟨"set_value", "R"⟩, ⟨"set_local_value", "R"⟩, ⟨"set_constant", "C"⟩, ⟨"set_void", "N"⟩, ⟨"allocate", "N"⟩, ⟨"deallocate", ""⟩, ⟨"call", "FN"⟩, ⟨"execute", "F"⟩, ⟨"proceed", ""⟩, ⟨"builtin", "F"⟩, ⟨"neck_cut", ""⟩, ⟨"get_level", "R"⟩, ⟨"mark", "R"⟩, ⟨"cut_to", "R"⟩, ⟨"fail", ""⟩, ⟨"halt", ""⟩, ⟨"try", "LN"⟩, ⟨"retry", "L"⟩, ⟨"trust", "L"⟩, ⟨"switch_on_term", "LLLL"⟩, ⟨"switch_on_constant", "TL"⟩, ⟨"switch_on_structure", "UL"⟩, ⟨"meta_call", "N"⟩, ⟨"catch_push", ""⟩, ⟨"catch_exit", "Y"⟩, ⟨"catch_fail", ""⟩, ⟨"dyn_retry", ""⟩])) .nil)⟩
/- is_whole -/
noncomputable def f13 : FDef := ⟨[0], (.cons (.ret (.bop .And (.cons (.call .isInt (.cons (.loc 0) .nil)) (.cons (.not (.call .isBool (.cons (.loc 0) .nil))) .nil)))) .nil)⟩
/- is_pair -/
noncomputable def f14 : FDef := ⟨[0], (.cons (.ret (.bop .And (.cons (.call .isTuple (.cons (.loc 0) .nil)) (.cons (.cmp .Eq (.call .len (.cons (.loc 0) .nil)) (.val (.int (2)))) .nil)))) .nil)⟩
/- is_register -/
noncomputable def f15 : FDef := ⟨[0, 1], (.cons (.ret (.bop .And (.cons (.call (.usr 14) (.cons (.loc 0) .nil)) (.cons (.cmp .In (.sub (.loc 0) (.val (.int (0)))) (.loc 1)) (.cons (.call (.usr 13) (.cons (.sub (.loc 0) (.val (.int (1)))) .nil)) (.cons (.cmp .GtE (.sub (.loc 0) (.val (.int (1)))) (.val (.int (1)))) .nil)))))) .nil)⟩
/- is_constant -/
noncomputable def f16 : FDef := ⟨[0], (.cons (.ret (.bop .And (.cons (.call (.usr 14) (.cons (.loc 0) .nil)) (.cons (.bop .Or (.cons (.cmp .Eq (.sub (.loc 0) (.val (.int (0)))) (.val (.int (4)))) (.cons (.cmp .Eq (.sub (.loc 0) (.val (.int (0)))) (.val (.int (5)))) .nil))) (.cons (.call (.usr 13) (.cons (.sub (.loc 0) (.val (.int (1)))) .nil)) .nil))))) .nil)⟩
/- is_functor -/
noncomputable def f17 : FDef := ⟨[0], (.cons (.ret (.bop .And (.cons (.call (.usr 13) (.cons (.loc 0) .nil)) (.cons (.cmp .GtE (.loc 0) (.val (.int (0)))) .nil)))) .nil)⟩
/- is_target -/
noncomputable def f18 : FDef := ⟨[0, 1], (.cons (.ite (.not (.call (.usr 13) (.cons (.loc 0) .nil))) (.cons (.ret (.val (.bool false))) .nil) .nil) (.cons (.ite (.loc 1) (.cons (.ret (.cmp .GtE (.loc 0) (.val (.int (0))))) .nil) .nil) (.cons (.ret (.cmp .GtE (.loc 0) (.neg (.val (.int (1)))))) .nil)))⟩
/- is_key -/
noncomputable def f19 : FDef := ⟨[0, 1], (.cons (.ite (.cmp .Eq (.loc 1) (.val (.str "T"))) (.cons (.ret (.call (.usr 16) (.cons (.loc 0) .nil))) .nil) .nil) (.cons (.ret (.call (.usr 17) (.cons (.loc 0) .nil))) .nil))⟩
/- is_operand -/
noncomputable def f21 : FDef := ⟨[0, 1, 2], (.cons (.ite (.cmp .Eq (.loc 1) (.val (.str "R"))) (.cons (.ret (.call (.usr 15) (.cons (.loc 0) (.cons (.tup (.cons (.val (.str "x")) (.cons (.val (.str "y")) .nil))) .nil)))) .nil) .nil) (.cons (.ite (.cmp .Eq (.loc 1) (.val (.str "X"))) (.cons (.ret (.call (.usr 15) (.cons (.loc 0) (.cons (.tup (.cons (.val (.str "x")) .nil)) .nil)))) .nil) .nil) (.cons (.ite (.cmp .Eq (.loc 1) (.val (.str "Y"))) (.cons (.ret (.call (.usr 15) (.cons (.loc 0) (.cons (.tup (.cons (.val (.str "y")) .nil)) .nil)))) .nil) .nil) (.cons (.ite (.cmp .Eq (.loc 1) (.val (.str "C"))) (.cons (.ret (.call (.usr 16) (.cons (.loc 0) .nil))) .nil) .nil) (.cons (.ite (.bop .Or (.cons (.cmp .Eq (.loc 1) (.val (.str "F"))) (.cons (.cmp .Eq (.loc 1) (.val (.str "N"))) .nil))) (.cons (.ret (.call (.usr 17) (.cons (.loc 0) .nil))) .nil) .nil) (.cons (.ite (.cmp .Eq (.loc 1) (.val (.str "L"))) (.cons (.ret (.call (.usr 18) (.cons (.loc 0) (.cons (.loc 2) .nil)))) .nil) .nil) (.cons (.ret (.call (.usr 20) (.cons (.loc 0) (.cons (.loc 1) (.cons (.loc 2) .nil))))) .nil)))))))⟩
/- check_row -/
noncomputable def f22 : FDef := ⟨[0, 1, 2], (.cons (.ite (.bop .Or (.cons (.not (.call .isTuple (.cons (.loc 1) .nil))) (.cons (.cmp .Eq (.call .len (.cons (.loc 1) .nil)) (.val (.int (0)))) (.cons (.not (.call .isStr (.cons (.sub (.loc 1) (.val (.int (0)))) .nil))) .nil)))) (.cons .dead .nil) .nil) (.cons (.assign 3 (.sub (.loc 1) (.val (.int (0))))) (.cons (.ite (.cmp .NotIn (.loc 3) (.loc 0)) (.cons .dead .nil) .nil) (.cons (.assign 4 (.sub (.loc 0) (.loc 3))) (.cons (.ite (.cmp .NotEq (.call .len (.cons (.loc 1) .nil)) (.bin .Add (.call .len (.cons (.loc 4) .nil)) (.val (.int (1))))) (.cons .dead .nil) .nil) (.cons (.for 5 (.call .range (.cons (.call .len (.cons (.loc 4) .nil)) .nil)) (.cons (.ite (.not (.call (.usr 21) (.cons (.sub (.loc 1) (.bin .Add (.loc 5) (.val (.int (1))))) (.cons (.sub (.loc 4) (.loc 5)) (.cons (.loc 2) .nil))))) (.cons .dead .nil) .nil) .nil)) .nil))))))⟩
/- is_label_row -/
noncomputable def f23 : FDef := ⟨[0], (.cons (.ret (.bop .And (.cons (.call .isTuple (.cons (.loc 0) .nil)) (.cons (.cmp .Gt (.call .len (.cons (.loc 0) .nil)) (.val (.int (0)))) (.cons (.cmp .Eq (.sub (.loc 0) (.val (.int (0)))) (.val (.str "label"))) .nil))))) .nil)⟩
/- label_addresses -/
noncomputable def f24 : FDef := ⟨[0, 1], (.cons (.assign 2 (.dict .nil)) (.cons (.assign 3 (.loc 1)) (.cons (.for 4 (.loc 0) (.cons (.ite (.call (.usr 23) (.cons (.loc 4) .nil)) (.cons (.ite (.bop .Or (.cons (.cmp .NotEq (.call .len (.cons (.loc 4) .nil)) (.val (.int (2)))) (.cons (.not (.call (.usr 13) (.cons (.sub (.loc 4) (.val (.int (1)))) .nil))) (.cons (.cmp .Lt (.sub (.loc 4) (.val (.int (1)))) (.val (.int (0)))) .nil)))) (.cons .dead .nil) .nil) (.cons (.ite (.cmp .In (.sub (.loc 4) (.val (.int (1)))) (.loc 2)) (.cons .dead .nil) .nil) (.cons (.setsub (.loc 2) (.sub (.loc 4) (.val (.int (1)))) (.loc 3)) .nil))) (.cons (.aug 3 .Add (.val (.int (1)))) .nil)) .nil)) (.cons (.ret (.loc 2)) .nil))))⟩
/- resolve_label -/
noncomputable def f25 : FDef := ⟨[0, 1, 2], (.cons (.ite (.cmp .Eq (.loc 0) (.neg (.val (.int (1))))) (.cons (.ret (.val (.int (2)))) .nil) .nil) (.cons (.ite (.cmp .NotIn (.loc 0) (.loc 1)) (.cons .dead .nil) .nil) (.cons (.ite (.cmp .GtE (.sub (.loc 1) (.loc 0)) (.loc 2)) (.cons .dead .nil) .nil) (.cons (.ret (.sub (.loc 1) (.loc 0))) .nil))))⟩
/- resolve_table -/
noncomputable def f26 : FDef := ⟨[0, 1, 2], (.cons (.assign 3 (.dict .nil)) (.cons (.for 4 (.loc 0) (.cons (.ite (.cmp .In (.sub (.loc 4) (.val (.int (0)))) (.loc 3)) (.cons .dead .nil) .nil) (.cons (.setsub (.loc 3) (.sub (.loc 4) (.val (.int (0)))) (.call (.usr 25) (.cons (.sub (.loc 4) (.val (.int (1)))) (.cons (.loc 1) (.cons (.loc 2) .nil))))) .nil))) (.cons (.ret (.loc 3)) .nil)))⟩
/- resolve_instruction -/
noncomputable def f27 : FDef := ⟨[0, 1, 2, 3], (.cons (.expr (.call (.usr 22) (.cons (.loc 0) (.cons (.loc 1) (.cons (.val (.bool false)) .nil))))) (.cons (.assign 4 (.sub (.loc 0) (.sub (.loc 1) (.val (.int (0)))))) (.cons (.assign 5 (.list (.cons (.sub (.loc 1) (.val (.int (0)))) .nil))) (.cons (.for 6 (.call .range (.cons (.call .len (.cons (.loc 4) .nil)) .nil)) (.cons (.assign 7 (.sub (.loc 1) (.bin .Add (.loc 6) (.val (.int (1)))))) (.cons (.ite (.cmp .Eq (.sub (.loc 4) (.loc 6)) (.val (.str "L"))) (.cons (.assign 7 (.call (.usr 25) (.cons (.loc 7) (.cons (.loc 2) (.cons (.loc 3) .nil))))) .nil) (.cons (.ite (.bop .Or (.cons (.cmp .Eq (.sub (.loc 4) (.loc 6)) (.val (.str "T"))) (.cons (.cmp .Eq (.sub (.loc 4) (.loc 6)) (.val (.str "U"))) .nil))) (.cons (.assign 7 (.call (.usr 26) (.cons (.loc 7) (.cons (.loc 2) (.cons (.loc 3) .nil))))) .nil) .nil) .nil)) (.cons (.expr (.mcall (.loc 5) 33 (.cons (.loc 7) .nil))) .nil)))) (.cons (.ret (.call .tuple (.cons (.loc 5) .nil))) .nil)))))⟩
/- assemble -/
noncomputable def f28 : FDef := ⟨[0, 1, 2], (.cons (.ite (.cmp .Is (.loc 2) (.val .none)) (.cons (.assign 2 (.call (.usr 12) .nil)) .nil) .nil) (.cons (.assign 3 (.call (.usr 24) (.cons (.loc 0) (.cons (.loc 1) .nil)))) (.cons (.assignC 4 (.comp (.loc 1) 1 (.loc 0) (.cons (.not (.call (.usr 23) (.cons (.loc 1) .nil))) .nil) [])) (.cons (.assign 5 (.bin .Add (.loc 1) (.call .len (.cons (.loc 4) .nil)))) (.cons (.ret (.comp (.call (.usr 27) (.cons (.loc 5) (.cons (.loc 1) (.cons (.loc 3) (.cons (.loc 4) .nil))))) 1 (.loc 4) .nil [(3, 3), (4, 5), (5, 2)])) .nil)))))⟩
/- __init__ -/
noncomputable def f52 : FDef := ⟨[0, 1, 2], (.cons (.setattr (.loc 0) 10 (.loc 1)) (.cons (.setattr (.loc 0) 11 (.loc 2)) (.cons (.setattr (.loc 0) 12 (.neg (.val (.int (1))))) (.cons (.setattr (.loc 0) 5 (.list .nil)) (.cons (.setattr (.loc 0) 13 (.list .nil)) (.cons (.setattr (.loc 0) 14 (.neg (.val (.int (1))))) (.cons (.setattr (.loc 0) 15 (.neg (.val (.int (1))))) (.cons (.setattr (.loc 0) 16 (.val (.bool false))) (.cons (.setattr (.loc 0) 17 (.val (.bool false))) (.cons (.setattr (.loc 0) 18 (.val (.bool false))) .nil))))))))))⟩
/- is_users -/
noncomputable def f354 : FDef := ⟨[0], (.cons (.ite (.bop .Or (.cons (.attr (.loc 0) 16) (.cons (.attr (.loc 0) 17) .nil))) (.cons (.ret (.val (.bool false))) .nil) .nil) (.cons (.ret (.cmp .In (.attr (.loc 0) 11) (.tup (.cons (.val (.str "static")) (.cons (.val (.str "dynamic")) .nil))))) .nil))⟩
/- __init__ -/
noncomputable def f53 : FDef := ⟨[0], (.cons (.setattr (.loc 0) 19 (.dict .nil)) (.cons (.setattr (.loc 0) 20 (.val (.int (0)))) (.cons (.setattr (.loc 0) 21 (.val (.int (0)))) .nil)))⟩
/- __init__ -/
noncomputable def f54 : FDef := ⟨[0, 1, 2], (.cons (.expr (.base 3 (.cons (.loc 0) .nil))) (.cons (.setattr (.loc 0) 22 (.loc 1)) (.cons (.setattr (.loc 0) 23 (.loc 2)) (.cons (.setattr (.loc 0) 24 (.call (.usr 11) .nil)) (.cons (.setattr (.loc 0) 25 (.call (.usr 12) .nil)) (.cons (.setattr (.loc 0) 26 (.dict .nil)) (.cons (.setattr (.loc 0) 27 (.list .nil)) (.cons (.expr (.mcall (.loc 0) 43 .nil)) .nil))))))))⟩
/- enter_fixed -/
noncomputable def f543 : FDef := ⟨[0], (.cons (.for 1 (.attr (.loc 0) 23) (.cons (.setsub (.attr (.loc 0) 26) (.loc 1) (.call (.cls 2) (.cons (.loc 1) (.cons (.val (.str "builtin")) .nil)))) .nil)) (.cons (.for 1 (.tup (.cons (.val (.int (1))) (.cons (.val (.int (2))) (.cons (.val (.int (3))) (.cons (.val (.int (4))) (.cons (.val (.int (20))) (.cons (.val (.int (5))) .nil))))))) (.cons (.setsub (.attr (.loc 0) 26) (.loc 1) (.call (.cls 2) (.cons (.loc 1) (.cons (.val (.str "control")) .nil)))) .nil)) (.cons (.for 2 (.call .range (.cons (.val (.int (8))) .nil)) (.cons (.assign 3 (.call (.cls 2) (.cons (.bin .Add (.val (.int (24))) (.loc 2)) (.cons (.val (.str "control")) .nil)))) (.cons (.setattr (.loc 3) 12 (.bin .Add (.val (.int (13))) (.loc 2))) (.cons (.setsub (.attr (.loc 0) 26) (.attr (.loc 3) 10) (.loc 3)) .nil)))) (.cons (.assign 3 (.call (.cls 2) (.cons (.val (.int (18))) (.cons (.val (.str "control")) .nil)))) (.cons (.setattr (.loc 3) 12 (.val (.int (3)))) (.cons (.setsub (.attr (.loc 0) 26) (.val (.int (18))) (.loc 3)) .nil))))))⟩
/- link -/
noncomputable def f544 : FDef := ⟨[0, 1], (.cons (.assign 2 (.call .len (.cons (.attr (.loc 0) 24) .nil))) (.cons (.for 3 (.call (.usr 28) (.cons (.loc 1) (.cons (.loc 2) (.cons (.attr (.loc 0) 25) .nil)))) (.cons (.expr (.mcall (.attr (.loc 0) 24) 33 (.cons (.loc 3) .nil))) .nil)) (.cons (.ret (.loc 2)) .nil)))⟩
/- link_procedure -/
noncomputable def f545 : FDef := ⟨[0, 1], (.cons (.setattr (.loc 1) 12 (.mcall (.loc 0) 44 (.cons (.call (.usr 10) (.cons (.attr (.loc 0) 22) (.cons (.attr (.loc 1) 10) (.cons (.attr (.loc 1) 5) .nil)))) .nil))) (.cons (.setattr (.loc 1) 18 (.val (.bool false))) .nil))⟩
/- define -/
noncomputable def f546 : FDef := ⟨[0, 1, 2], (.cons (.assign 3 (.call (.cls 2) (.cons (.loc 1) (.cons (.val (.str "static")) .nil)))) (.cons (.setattr (.loc 3) 5 (.loc 2)) (.cons (.setsub (.attr (.loc 0) 26) (.loc 1) (.loc 3)) (.cons (.expr (.mcall (.loc 0) 45 (.cons (.loc 3) .nil))) (.cons (.ret (.loc 3)) .nil)))))⟩
/- link_pending -/
noncomputable def f547 : FDef := ⟨[0], (.cons (.assign 1 (.attr (.loc 0) 27)) (.cons (.setattr (.loc 0) 27 (.list .nil)) (.cons (.for 2 (.loc 1) (.cons (.assign 3 (.mcall (.attr (.loc 0) 26) 34 (.cons (.loc 2) .nil))) (.cons (.ite (.bop .And (.cons (.cmp .IsNot (.loc 3) (.val .none)) (.cons (.attr (.loc 3) 18) .nil))) (.cons (.expr (.mcall (.loc 0) 45 (.cons (.loc 3) .nil))) .nil) .nil) .nil))) .nil)))⟩
/- missing -/
noncomputable def f548 : FDef := ⟨[0, 1], (.cons (.ret (.val .none)) .nil)⟩
/- lookup -/
noncomputable def f549 : FDef := ⟨[0, 1], (.cons (.assign 2 (.mcall (.attr (.loc 0) 26) 34 (.cons (.loc 1) .nil))) (.cons (.ite (.cmp .Is (.loc 2) (.val .none)) (.cons (.assign 2 (.mcall (.loc 0) 48 (.cons (.loc 1) .nil))) .nil) .nil) (.cons (.ite (.bop .And (.cons (.cmp .IsNot (.loc 2) (.val .none)) (.cons (.attr (.loc 2) 18) .nil))) (.cons (.expr (.mcall (.loc 0) 45 (.cons (.loc 2) .nil))) .nil) .nil) (.cons (.ret (.loc 2)) .nil))))⟩
/- modify_error -/
noncomputable def f550 : FDef := ⟨[0, 1], (.cons (.assign 2 (.call (.usr 2) (.cons (.attr (.loc 0) 22) (.cons (.loc 1) .nil)))) (.cons (.ret (.call (.usr 5) (.cons (.attr (.loc 0) 22) (.cons (.val (.str "modify")) (.cons (.val (.str "static_procedure")) (.cons (.loc 2) .nil)))))) .nil))⟩
/- is_fixed -/
noncomputable def f551 : FDef := ⟨[0, 1], (.cons (.assign 2 (.mcall (.attr (.loc 0) 26) 34 (.cons (.loc 1) .nil))) (.cons (.ite (.bop .And (.cons (.cmp .IsNot (.loc 2) (.val .none)) (.cons (.cmp .In (.attr (.loc 2) 11) (.tup (.cons (.val (.str "builtin")) (.cons (.val (.str "control")) .nil)))) .nil))) (.cons (.ret (.val (.bool true))) .nil) .nil) (.cons (.ret (.mcall (.mcall (.attr (.loc 0) 22) 37 (.cons (.mcall (.attr (.loc 0) 22) 39 (.cons (.loc 1) .nil)) .nil)) 35 (.cons (.val (.str "$")) .nil))) .nil)))⟩
/- writable -/
noncomputable def f552 : FDef := ⟨[0, 1, 2], (.cons (.ite (.mcall (.loc 0) 51 (.cons (.loc 1) .nil)) (.cons (.raise (.mcall (.loc 0) 50 (.cons (.loc 1) .nil))) .nil) .nil) (.cons (.assign 3 (.mcall (.attr (.loc 0) 26) 34 (.cons (.loc 1) .nil))) (.cons (.ite (.bop .Or (.cons (.cmp .Is (.loc 3) (.val .none)) (.cons (.attr (.loc 3) 16) .nil))) (.cons (.assign 3 (.call (.cls 2) (.cons (.loc 1) (.cons (.loc 2) .nil)))) (.cons (.setsub (.attr (.loc 0) 26) (.loc 1) (.loc 3)) .nil)) .nil) (.cons (.ret (.loc 3)) .nil))))⟩
/- user_functors -/
noncomputable def f553 : FDef := ⟨[0], (.cons (.assign 1 (.list .nil)) (.cons (.for 2 (.attr (.loc 0) 26) (.cons (.ite (.mcall (.sub (.attr (.loc 0) 26) (.loc 2)) 54 .nil) (.cons (.expr (.mcall (.loc 1) 33 (.cons (.tup (.cons (.mcall (.attr (.loc 0) 22) 37 (.cons (.mcall (.attr (.loc 0) 22) 39 (.cons (.loc 2) .nil)) .nil)) (.cons (.mcall (.attr (.loc 0) 22) 4 (.cons (.loc 2) .nil)) (.cons (.loc 2) .nil)))) .nil))) .nil) .nil) .nil)) (.cons (.ret (.comp (.sub (.loc 1) (.val (.int (2)))) 1 (.call .sorted (.cons (.loc 1) .nil)) .nil [])) .nil)))⟩
/- __init__ -/
noncomputable def f55 : FDef := ⟨[0, 1, 2, 3, 4], (.cons (.setattr (.loc 0) 10 (.loc 1)) (.cons (.setattr (.loc 0) 28 (.loc 2)) (.cons (.setattr (.loc 0) 29 (.loc 3)) (.cons (.setattr (.loc 0) 30 (.loc 4)) .nil))))⟩
/- _law_pick -/
noncomputable def f29 : FDef := ⟨[0, 1], (.cons (.ite (.cmp .Eq (.sub (.loc 0) (.val (.int (2)))) (.val (.int (0)))) (.cons (.ite (.cmp .Eq (.sub (.loc 0) (.val (.int (1)))) (.call .len (.cons (.sub (.loc 0) (.val (.int (0)))) .nil))) (.cons (.setsub (.loc 0) (.val (.int (3))) (.bin .Mod (.bin .Mult (.sub (.loc 0) (.val (.int (3)))) (.val (.int (48271)))) (.val (.int (2147483647))))) (.cons (.ret (.bin .Mod (.bin .FloorDiv (.sub (.loc 0) (.val (.int (3)))) (.val (.int (7)))) (.loc 1))) .nil)) .nil) (.cons (.assign 2 (.sub (.sub (.loc 0) (.val (.int (0)))) (.sub (.loc 0) (.val (.int (1)))))) (.cons (.setsub (.loc 0) (.val (.int (1))) (.bin .Add (.sub (.loc 0) (.val (.int (1)))) (.val (.int (1))))) (.cons (.setsub (.loc 0) (.val (.int (2))) (.ite (.cmp .GtE (.loc 2) (.val (.int (0)))) (.loc 2) (.neg (.loc 2)))) .nil)))) .nil) (.cons (.assign 3 (.bin .Mod (.sub (.loc 0) (.val (.int (2)))) (.loc 1))) (.cons (.setsub (.loc 0) (.val (.int (2))) (.bin .FloorDiv (.sub (.loc 0) (.val (.int (2)))) (.loc 1))) (.cons (.ret (.loc 3)) .nil))))⟩
/- _law_led -/
noncomputable def f30 : FDef := ⟨[0, 1, 2], (.cons (.assign 3 (.list .nil)) (.cons (.assign 4 (.list (.cons (.loc 1) .nil))) (.cons (.ite (.cmp .Eq (.sub (.loc 0) (.loc 1)) (.tup (.cons (.val (.str "fail")) .nil))) (.cons (.ret (.list .nil)) .nil) .nil) (.cons (.ite (.cmp .Eq (.sub (.sub (.loc 0) (.loc 1)) (.val (.int (0)))) (.val (.str "try"))) (.cons (.ite (.cmp .NotEq (.sub (.sub (.loc 0) (.loc 1)) (.val (.int (2)))) (.loc 2)) (.cons (.ret (.val .none)) .nil) .nil) (.cons (.assign 4 (.list (.cons (.sub (.sub (.loc 0) (.loc 1)) (.val (.int (1)))) .nil))) (.cons (.assign 5 (.bin .Add (.loc 1) (.val (.int (1))))) (.cons (.while (.cmp .Eq (.sub (.sub (.loc 0) (.loc 5)) (.val (.int (0)))) (.val (.str "retry"))) (.cons (.expr (.mcall (.loc 4) 33 (.cons (.sub (.sub (.loc 0) (.loc 5)) (.val (.int (1)))) .nil))) (.cons (.aug 5 .Add (.val (.int (1)))) .nil))) (.cons (.ite (.cmp .NotEq (.sub (.sub (.loc 0) (.loc 5)) (.val (.int (0)))) (.val (.str "trust"))) (.cons (.ret (.val .none)) .nil) .nil) (.cons (.expr (.mcall (.loc 4) 33 (.cons (.sub (.sub (.loc 0) (.loc 5)) (.val (.int (1)))) .nil))) .nil)))))) .nil) (.cons (.for 6 (.loc 4) (.cons (.ite (.bop .Or (.cons (.cmp .NotEq (.sub (.sub (.loc 0) (.loc 6)) (.val (.int (0)))) (.val (.str "put_constant"))) (.cons (.cmp .NotEq (.sub (.loc 0) (.bin .Add (.loc 6) (.val (.int (1))))) (.tup (.cons (.val (.str "proceed")) .nil))) .nil))) (.cons (.ret (.val .none)) .nil) .nil) (.cons (.expr (.mcall (.loc 3) 33 (.cons (.sub (.sub (.sub (.loc 0) (.loc 6)) (.val (.int (1)))) (.val (.int (1)))) .nil))) .nil))) (.cons (.ret (.loc 3)) .nil))))))⟩
/- law -/
noncomputable def f31 : FDef := ⟨[0], (.cons (.assign 1 (.slice (.loc 0) (.val (.int (63))))) (.cons (.assign 2 (.list (.cons (.loc 1) (.cons (.val (.int (0))) (.cons (.val (.int (0))) (.cons (.bin .Mult (.bin .Mod (.call .sum (.cons (.loc 1) .nil)) (.val (.int (100003)))) (.val (.int (7)))) .nil)))))) (.cons (.assign 3 (.call (.cls 0) .nil)) (.cons (.assign 4 (.mcall (.loc 3) 38 (.cons (.val (.str "b")) (.cons (.val (.int (1))) .nil)))) (.cons (.assign 5 (.call (.cls 4) (.cons (.loc 3) (.cons (.dict (.cons (.loc 4) (.cons (.val (.int (0))) .nil))) .nil)))) (.cons (.assign 6 (.list (.cons (.mcall (.loc 3) 38 (.cons (.val (.str "p")) (.cons (.val (.int (1))) .nil))) (.cons (.mcall (.loc 3) 38 (.cons (.val (.str "p")) (.cons (.val (.int (0))) .nil))) (.cons (.mcall (.loc 3) 38 (.cons (.val (.str "a")) (.cons (.val (.int (3))) .nil))) .nil))))) (.cons (.assign 7 (.list (.cons (.loc 4) (.cons (.mcall (.loc 3) 38 (.cons (.val (.str "$x")) (.cons (.val (.int (1))) .nil))) (.cons (.val (.int (1))) (.cons (.val (.int (20))) (.cons (.val (.int (18))) (.cons (.bin .Add (.val (.int (24))) (.val (.int (7)))) .nil)))))))) (.cons (.assign 8 (.dict .nil)) (.cons (.assign 9 (.val (.int (0)))) (.cons (.for 10 (.call .range (.cons (.call .min (.cons (.val (.int (16))) (.cons (.bin .Add (.val (.int (2))) (.call .len (.cons (.loc 1) .nil))) .nil))) .nil)) (.cons (.assign 11 (.call (.usr 29) (.cons (.loc 2) (.cons (.val (.int (8))) .nil)))) (.cons (.assign 12 (.sub (.loc 6) (.call (.usr 29) (.cons (.loc 2) (.cons (.val (.int (3))) .nil))))) (.cons (.assign 13 (.call .list (.cons (.attr (.loc 5) 24) .nil))) (.cons (.ite (.bop .Or (.cons (.cmp .Eq (.loc 11) (.val (.int (0)))) (.cons (.cmp .Eq (.loc 11) (.val (.int (4)))) (.cons (.cmp .Eq (.loc 11) (.val (.int (7)))) .nil)))) (.cons (.assign 14 (.ite (.cmp .Eq (.loc 11) (.val (.int (4)))) (.val (.str "dynamic")) (.val (.str "static")))) (.cons (.assign 15 (.mcall (.loc 5) 52 (.cons (.loc 12) (.cons (.loc 14) .nil)))) (.cons (.ite (.bop .Or (.cons (.cmp .NotIn (.loc 12) (.loc 8)) (.cons (.cmp .Eq (.sub (.sub (.loc 8) (.loc 12)) (.val (.int (4)))) (.val (.str "library"))) .nil))) (.cons (.setsub (.loc 8) (.loc 12) (.list (.cons (.loc 14) (.cons (.list .nil) (.cons (.val .none) (.cons (.val (.bool false)) (.cons (.val (.str "")) .nil))))))) .nil) .nil) (.cons (.ite (.bop .Or (.cons (.cmp .NotEq (.attr (.loc 15) 10) (.loc 12)) (.cons (.cmp .NotEq (.attr (.loc 15) 11) (.sub (.sub (.loc 8) (.loc 12)) (.val (.int (0))))) .nil))) (.cons (.ret (.val (.bool false))) .nil) .nil) (.cons (.ite (.bop .And (.cons (.cmp .Eq (.attr (.loc 15) 11) (.val (.str "static"))) (.cons (.cmp .Eq (.loc 14) (.val (.str "static"))) .nil))) (.cons (.expr (.mcall (.attr (.loc 15) 5) 33 (.cons (.call (.cls 5) (.cons (.loc 12) (.cons (.tup (.cons (.val (.str "var")) .nil)) (.cons (.list (.cons (.tup (.cons (.val (.str "put_constant")) (.cons (.tup (.cons (.val (.int (5))) (.cons (.loc 9) .nil))) (.cons (.tup (.cons (.val (.str "x")) (.cons (.val (.int (1))) .nil))) .nil)))) (.cons (.tup (.cons (.val (.str "proceed")) .nil)) .nil))) (.cons (.val (.int (1))) .nil))))) .nil))) (.cons (.expr (.mcall (.sub (.sub (.loc 8) (.loc 12)) (.val (.int (1)))) 33 (.cons (.loc 9) .nil))) (.cons (.aug 9 .Add (.val (.int (1)))) (.cons (.ite (.not (.attr (.loc 15) 18)) (.cons (.setattr (.loc 15) 18 (.val (.bool true))) (.cons (.expr (.mcall (.attr (.loc 5) 27) 33 (.cons (.loc 12) .nil))) .nil)) .nil) (.cons (.setsub (.sub (.loc 8) (.loc 12)) (.val (.int (3))) (.val (.bool true))) .nil))))) .nil) .nil))))) (.cons (.ite (.cmp .Eq (.loc 11) (.val (.int (1)))) (.cons (.expr (.mcall (.loc 5) 47 .nil)) (.cons (.ite (.cmp .NotEq (.attr (.loc 5) 27) (.list .nil)) (.cons (.ret (.val (.bool false))) .nil) .nil) (.cons (.for 16 (.loc 8) (.cons (.ite (.sub (.sub (.loc 8) (.loc 16)) (.val (.int (3)))) (.cons (.setsub (.sub (.loc 8) (.loc 16)) (.val (.int (2))) (.call .list (.cons (.sub (.sub (.loc 8) (.loc 16)) (.val (.int (1)))) .nil))) (.cons (.setsub (.sub (.loc 8) (.loc 16)) (.val (.int (3))) (.val (.bool false))) .nil)) .nil) .nil)) .nil))) (.cons (.ite (.cmp .Eq (.loc 11) (.val (.int (2)))) (.cons (.assign 15 (.mcall (.loc 5) 49 (.cons (.loc 12) .nil))) (.cons (.ite (.cmp .NotIn (.loc 12) (.loc 8)) (.cons (.ite (.cmp .IsNot (.loc 15) (.val .none)) (.cons (.ret (.val (.bool false))) .nil) .nil) .nil) (.cons (.ite (.sub (.sub (.loc 8) (.loc 12)) (.val (.int (3)))) (.cons (.setsub (.sub (.loc 8) (.loc 12)) (.val (.int (2))) (.call .list (.cons (.sub (.sub (.loc 8) (.loc 12)) (.val (.int (1)))) .nil))) (.cons (.setsub (.sub (.loc 8) (.loc 12)) (.val (.int (3))) (.val (.bool false))) .nil)) .nil) .nil)) .nil)) (.cons (.ite (.cmp .Eq (.loc 11) (.val (.int (3)))) (.cons (.assign 17 (.call (.usr 29) (.cons (.loc 2) (.cons (.val (.int (4))) .nil)))) (.cons (.assignC 18 (.comp (.call (.cls 5) (.cons (.loc 4) (.cons (.tup (.cons (.val (.str "var")) .nil)) (.cons (.list (.cons (.tup (.cons (.val (.str "put_constant")) (.cons (.tup (.cons (.val (.int (5))) (.cons (.bin .Add (.loc 5) (.loc 1)) .nil))) (.cons (.tup (.cons (.val (.str "x")) (.cons (.val (.int (1))) .nil))) .nil)))) (.cons (.tup (.cons (.val (.str "proceed")) .nil)) .nil))) (.cons (.val (.int (1))) .nil))))) 1 (.call .range (.cons (.loc 17) .nil)) .nil [(4, 12), (5, 9)])) (.cons (.expr (.mcall (.loc 5) 46 (.cons (.loc 12) (.cons (.loc 18) .nil)))) (.cons (.setsub (.loc 8) (.loc 12) (.list (.cons (.val (.str "static")) (.cons (.call .list (.cons (.call .range (.cons (.loc 9) (.cons (.bin .Add (.loc 9) (.loc 17)) .nil))) .nil)) (.cons (.call .list (.cons (.call .range (.cons (.loc 9) (.cons (.bin .Add (.loc 9) (.loc 17)) .nil))) .nil)) (.cons (.val (.bool false)) (.cons (.val (.str "")) .nil))))))) (.cons (.aug 9 .Add (.loc 17)) .nil))))) (.cons (.ite (.bop .And (.cons (.cmp .Eq (.loc 11) (.val (.int (5)))) (.cons (.cmp .In (.loc 12) (.loc 8)) .nil))) (.cons (.setsub (.sub (.loc 8) (.loc 12)) (.val (.int (4))) (.sub (.list (.cons (.val (.str "library")) (.cons (.val (.str "helper")) .nil))) (.call (.usr 29) (.cons (.loc 2) (.cons (.val (.int (2))) .nil))))) (.cons (.setattr (.sub (.attr (.loc 5) 26) (.loc 12)) 16 (.cmp .Eq (.sub (.sub (.loc 8) (.loc 12)) (.val (.int (4)))) (.val (.str "library")))) (.cons (.setattr (.sub (.attr (.loc 5) 26) (.loc 12)) 17 (.cmp .Eq (.sub (.sub (.loc 8) (.loc 12)) (.val (.int (4)))) (.val (.str "helper")))) .nil))) (.cons (.ite (.cmp .Eq (.loc 11) (.val (.int (6)))) (.cons (.assign 16 (.sub (.loc 7) (.call (.usr 29) (.cons (.loc 2) (.cons (.val (.int (6))) .nil))))) (.cons (.assign 19 (.tup (.cons (.val (.str "s")) (.cons (.val (.int (15))) (.cons (.tup (.cons (.tup (.cons (.val (.str "a")) (.cons (.mcall (.loc 3) 39 (.cons (.loc 16) .nil)) .nil))) (.cons (.tup (.cons (.val (.str "i")) (.cons (.mcall (.loc 3) 4 (.cons (.loc 16) .nil)) .nil))) .nil))) .nil))))) (.cons (.assign 20 (.tup (.cons (.tup (.cons (.val (.str "a")) (.cons (.mcall (.loc 3) 36 (.cons (.val (.str "modify")) .nil)) .nil))) (.cons (.tup (.cons (.val (.str "a")) (.cons (.mcall (.loc 3) 36 (.cons (.val (.str "static_procedure")) .nil)) .nil))) (.cons (.loc 19) .nil))))) (.cons (.assign 21 (.tup (.cons (.val (.str "s")) (.cons (.val (.int (16))) (.cons (.tup (.cons (.tup (.cons (.val (.str "s")) (.cons (.mcall (.loc 3) 38 (.cons (.val (.str "permission_error")) (.cons (.val (.int (3))) .nil))) (.cons (.loc 20) .nil)))) (.cons (.tup (.cons (.val (.str "a")) (.cons (.val (.int (25))) .nil))) .nil))) .nil))))) (.cons (.try1 (.loc 5) 52 (.cons (.loc 16) (.cons (.val (.str "dynamic")) .nil)) 22 31 21) .nil))))) .nil) .nil)) .nil)) .nil)) .nil)) .nil)) (.cons (.ite (.cmp .NotEq (.slice (.attr (.loc 5) 24) (.call .len (.cons (.loc 13) .nil))) (.loc 13)) (.cons (.ret (.val (.bool false))) .nil) .nil) (.cons (.for 16 (.loc 8) (.cons (.assign 15 (.sub (.attr (.loc 5) 26) (.loc 16))) (.cons (.assign 23 (.sub (.loc 8) (.loc 16))) (.cons (.ite (.bop .Or (.cons (.cmp .NotEq (.attr (.loc 15) 11) (.sub (.loc 23) (.val (.int (0))))) (.cons (.cmp .NotEq (.attr (.loc 15) 18) (.sub (.loc 23) (.val (.int (3))))) (.cons (.cmp .NotEq (.cmp .Lt (.attr (.loc 15) 12) (.val (.int (0)))) (.cmp .Is (.sub (.loc 23) (.val (.int (2)))) (.val .none))) .nil)))) (.cons (.ret (.val (.bool false))) .nil) .nil) (.cons (.ite (.bop .And (.cons (.cmp .IsNot (.sub (.loc 23) (.val (.int (2)))) (.val .none)) (.cons (.cmp .NotEq (.call (.usr 30) (.cons (.attr (.loc 5) 24) (.cons (.attr (.loc 15) 12) (.cons (.mcall (.loc 3) 4 (.cons (.loc 16) .nil)) .nil)))) (.sub (.loc 23) (.val (.int (2))))) .nil))) (.cons (.ret (.val (.bool false))) .nil) .nil) .nil))))) (.cons (.assign 21 (.call .sorted (.cons (.comp (.tup (.cons (.mcall (.loc 3) 37 (.cons (.mcall (.loc 3) 39 (.cons (.loc 1) .nil)) .nil)) (.cons (.mcall (.loc 3) 4 (.cons (.loc 1) .nil)) (.cons (.loc 1) .nil)))) 1 (.loc 8) (.cons (.cmp .Eq (.sub (.sub (.loc 2) (.loc 1)) (.val (.int (4)))) (.val (.str ""))) .nil) [(2, 8), (3, 3)]) .nil))) (.cons (.ite (.cmp .NotEq (.mcall (.loc 5) 53 .nil) (.comp (.sub (.loc 1) (.val (.int (2)))) 1 (.loc 21) .nil [])) (.cons (.ret (.val (.bool false))) .nil) .nil) .nil))))))))) (.cons (.assignC 24 (.comp (.attr (.mcall (.loc 3) 49 (.cons (.bin .Add (.val (.int (24))) (.loc 1)) .nil)) 12) 1 (.call .range (.cons (.val (.int (8))) .nil)) .nil [(3, 5)])) (.cons (.ret (.bop .And (.cons (.cmp .Eq (.loc 24) (.call .list (.cons (.call .range (.cons (.val (.int (13))) (.cons (.bin .Add (.val (.int (13))) (.val (.int (8)))) .nil))) .nil))) (.cons (.cmp .Eq (.attr (.mcall (.loc 5) 49 (.cons (.val (.int (18))) .nil)) 12) (.val (.int (3)))) .nil)))) .nil))))))))))))⟩
noncomputable def fnList : List (Nat × FDef) := [(56, f56), (0, f0), (1, f1), (50, f50), (136, f136), (137, f137), (110, f110), (138, f138), (139, f139), (104, f104), (2, f2), (3, f3), (4, f4), (5, f5), (6, f6), (7, f7), (51, f51), (240, f240), (241, f241), (8, f8), (9, f9), (10, f10), (11, f11), (12, f12), (13, f13), (14, f14), (15, f15), (16, f16), (17, f17), (18, f18), (19, f19), (21, f21), (22, f22), (23, f23), (24, f24), (25, f25), (26, f26), (27, f27), (28, f28), (52, f52), (354, f354), (53, f53), (54, f54), (543, f543), (544, f544), (545, f545), (546, f546), (547, f547), (548, f548), (549, f549), (550, f550), (551, f551), (552, f552), (553, f553), (55, f55), (29, f29), (30, f30)]
noncomputable def tabGet (n : Nat) : List (Nat × FDef) → Option FDef
  | [] => none
  | (m, f) :: r => match Nat.beq m n with | true => some f | false => tabGet n r
noncomputable def tab (n : Nat) : Option FDef := tabGet n fnList
theorem tabGet_mem {n : Nat} {f : FDef} : ∀ {l : List (Nat × FDef)}, tabGet n l = some f → (n, f) ∈ l
  | [], h => nomatch h
  | (m, g) :: r, h => by
    unfold tabGet at h
    cases e : Nat.beq m n with
    | true =>
      rw [e] at h
      cases Nat.eq_of_beq_eq_true e
      cases h
      exact .head _
    | false => rw [e] at h; exact .tail _ (tabGet_mem h)
end Mine.Internal
end
section
open PySem PySem.W
set_option maxRecDepth 100000
namespace Mine.Internal
section
variable {σ : St} {i j : Nat} {o : O}
theorem St.get_lt' (h : (σ.get i).isSome = true) : i < σ.len := by
  obtain ⟨x, e⟩ := Option.isSome_iff_exists.mp h
  exact St.get_lt e
theorem St.gp_eq (h : (σ.get i).isSome = true) : (σ.put i o).get i = some o := by rw [St.get_put, if_pos rfl, if_pos (St.get_lt' h)]
theorem St.gp_ne (h : i ≠ j) : (σ.put i o).get j = σ.get j := by rw [St.get_put, if_neg h]
theorem St.ga_len : (σ.add o).get σ.len = some o := by rw [St.get_add, if_pos rfl]
theorem St.ga_old (h : (σ.get j).isSome = true) : (σ.add o).get j = σ.get j := by rw [St.get_add, if_neg (Nat.ne_of_lt (St.get_lt' h))]
theorem St.ne_len (h : (σ.get j).isSome = true) : (j = σ.len) = False := eq_false (Nat.ne_of_lt (St.get_lt' h))
theorem St.len_ne (h : (σ.get j).isSome = true) : (σ.len = j) = False := eq_false fun e => Nat.ne_of_lt (St.get_lt' h) e.symm
theorem St.vp_ne (h : i ≠ j) : (σ.put i o).ver j = σ.ver j := by
  unfold St.ver
  rw [St.objs_put, if_neg h]
theorem St.va_old (h : (σ.get j).isSome = true) : (σ.add o).ver j = σ.ver j := St.ver_add _ _ (St.get_lt' h)
end

theorem dec_t {p : Prop} {i : Decidable p} {b : Bool} (h : @decide p i = b) (hp : p) : b = true := by rw [← h]; exact decide_eq_true hp
theorem dec_f {p : Prop} {i : Decidable p} {b : Bool} (h : @decide p i = b) (hp : ¬ p) : b = false := by rw [← h]; exact decide_eq_false hp

/- calls to a depth of k at least -/
noncomputable def Ok (k : Nat) (Γ : Env') : Prop := ∃ D, k ≤ D ∧ Γ = Γof tab sortRows D
theorem Ok.le {j k : Nat} {Γ : Env'} (G : Ok k Γ) (h : j ≤ k) : Ok j Γ := let ⟨D, a, b⟩ := G; ⟨D, Nat.le_trans h a, b⟩
theorem Ok.run {k id : Nat} {Γ : Env'} {vs : List V} {σ : St} {Q X : V → St → Prop} (G : Ok (k + 1) Γ) (h : ∀ Γ', Ok k Γ' → runFn Γ' (tab id) vs σ Q X) : Γ.fn id vs σ Q X := by
  obtain ⟨D, a, rfl⟩ := G
  cases D with
  | zero => omega
  | succ D => exact h _ ⟨D, by omega, rfl⟩

/- a list that the loop fills -/
theorem rangeL_map (a b : Int) : rangeL a b = (List.range (b - a).toNat).map fun (j : Nat) => V.int (a + (j : Int)) := rfl
theorem rangeL_len (a b : Int) : (rangeL a b).length = (b - a).toNat := by simp [rangeL]
end Mine.Internal
end
section
open PySem PySem.W
set_option maxRecDepth 100000
namespace Mine.Internal
section
variable {Γ : Env'} {σ : St} {i j n c : Nat} {l : List V} {v x : V} {s : Str} {o : O} {fs : List (Nat × V)} {es : List (V × V)} {Q : V → Prop} {R X : V → St → Prop} {S : St → Prop} {M : Mt → Prop} {b : Bool} {B : Bool → Prop} {L : List V → Prop}
theorem isSome_of (h : σ.get i = some o) : (σ.get i).isSome = true := by rw [h]; rfl
theorem St.ne_len' (h : (σ.get j).isSome = true) : j ≠ σ.len := Nat.ne_of_lt (St.get_lt' h)
theorem St.len_ne' (h : (σ.get j).isSome = true) : σ.len ≠ j := fun e => Nat.ne_of_lt (St.get_lt' h) e.symm
variable {σ' : St} {k : Nat} {y : Option O} {z : Nat}
theorem use1 (f : ∀ j, (σ.get j).isSome = true → σ'.get j = σ.get j) (h : (σ.get j).isSome = true) (q : σ.get j = y) : σ'.get j = y := (f j h).trans q
theorem use2 (f : ∀ j, (σ.get j).isSome = true → i ≠ j → σ'.get j = σ.get j) (h : (σ.get j).isSome = true) (n : i ≠ j) (q : σ.get j = y) : σ'.get j = y := (f j h n).trans q
theorem use3 (f : ∀ j, (σ.get j).isSome = true → i ≠ j → k ≠ j → σ'.get j = σ.get j) (h : (σ.get j).isSome = true) (n : i ≠ j) (n2 : k ≠ j) (q : σ.get j = y) : σ'.get j = y := (f j h n n2).trans q
theorem usv1 (f : ∀ j, (σ.get j).isSome = true → σ'.ver j = σ.ver j) (h : (σ.get j).isSome = true) (q : σ.ver j = z) : σ'.ver j = z := (f j h).trans q
theorem usv2 (f : ∀ j, (σ.get j).isSome = true → i ≠ j → σ'.ver j = σ.ver j) (h : (σ.get j).isSome = true) (n : i ≠ j) (q : σ.ver j = z) : σ'.ver j = z := (f j h n).trans q
theorem usv3 (f : ∀ j, (σ.get j).isSome = true → i ≠ j → k ≠ j → σ'.ver j = σ.ver j) (h : (σ.get j).isSome = true) (n : i ≠ j) (n2 : k ≠ j) (q : σ.ver j = z) : σ'.ver j = z := (f j h n n2).trans q
theorem gp_ne' {j : Nat} (n : i ≠ j) (q : σ.get j = y) : (σ.put i o).get j = y := (St.gp_ne n).trans q
theorem ga_old' {j : Nat} (h : (σ.get j).isSome = true) (q : σ.get j = y) : (σ.add o).get j = y := (St.ga_old h).trans q
theorem vp_ne' {j : Nat} (n : i ≠ j) (q : σ.ver j = z) : (σ.put i o).ver j = z := (St.vp_ne n).trans q
theorem va_old' {j : Nat} (h : (σ.get j).isSome = true) (q : σ.ver j = z) : (σ.add o).ver j = z := (St.va_old h).trans q
theorem sV {α : Type} {o : Option α} {a : α} {F : α → Prop} (g : o = some a) (k : F a) : someV o F := g ▸ k
theorem r_any {α : Type} {o : Option α} {a : α} {F : α → Prop} (g : o = some a) (k : F a) : Op (someV o F) := ⟨sV g k⟩
theorem d_t {p : Prop} [Decidable p] (h : p) : decide p = true := decide_eq_true h
theorem d_f {p : Prop} [Decidable p] (h : ¬ p) : decide p = false := decide_eq_false h
theorem r_attr (g : σ.get i = some (.inst c fs)) (h : fieldOk c n = true) (e : lget n fs = some x) (k : Q x) : Op (attrO i n σ Q) := ⟨sV g ⟨h, sV e k⟩⟩
theorem r_methU (g : σ.get i = some (.inst c fs)) (h : methOk c n = true) (e : lget n fs = none) (k : M (.usr (methId c n))) : Op (methO i n σ M) := ⟨sV g ⟨⟨h, e⟩, k⟩⟩
theorem r_methL (g : σ.get i = some (.list l)) (k : M .append) : Op (methO i 33 σ M) := ⟨sV g ⟨rfl, k⟩⟩
theorem r_methD (g : σ.get i = some (.dict es)) (k : M .get) : Op (methO i 34 σ M) := ⟨sV g ⟨rfl, k⟩⟩
theorem r_list (g : σ.get i = some (.list l)) (k : L l) : Op (listO i σ L) := ⟨sV g k⟩
theorem r_dget (g : σ.get i = some (.dict es)) (h : dfit x es) {o : Option V} (e : dget x es = o) (k : R (o.getD v) σ) : Op (dgetO i x v σ R) := ⟨sV g ⟨h, e ▸ k⟩⟩
theorem r_subL {k : Int} (g : σ.get i = some (.list l)) (h : 0 ≤ k ∧ k < 2 ^ 62) (e : l[k.toNat]? = some x) (q : Q x) : Op (subO i (.int k) σ Q) := ⟨sV g ⟨h, sV e q⟩⟩
theorem r_subD (g : σ.get i = some (.dict es)) (h : dfit v es) (e : dget v es = some x) (q : Q x) : Op (subO i v σ Q) := ⟨sV g ⟨h, sV e q⟩⟩
theorem r_setL {k : Int} (g : σ.get i = some (.list l)) (h : 0 ≤ k ∧ k < l.length ∧ l.length < big) (q : S (σ.put i (.list (l.set k.toNat v)))) : Op (setsubO i (.int k) v σ S) := ⟨sV g ⟨h, q⟩⟩
theorem r_setD {k : V} (g : σ.get i = some (.dict es)) (h : dfit k es ∧ es.length < big) (q : S (σ.put i (.dict (dput k v es)))) : Op (setsubO i k v σ S) := ⟨sV g ⟨h, q⟩⟩
theorem r_setA (g : σ.get i = some (.inst c fs)) (h : fieldOk c n = true) (e : Nat.ble (fs.length + 1) 100 = true) (q : S (σ.put i (.inst c (lput n v fs)))) : Op (setattrO i n v σ S) := ⟨sV g ⟨⟨h, Nat.le_of_ble_eq_true e⟩, q⟩⟩
theorem r_slice {k : Int} (g : σ.get i = some (.list l)) (h : 0 ≤ k ∧ k < 2 ^ 62 ∧ l.length < big) (q : R (.obj σ.len) (σ.add (.list (l.take k.toNat)))) : Op (sliceO i k σ R) := ⟨sV g ⟨h, q⟩⟩
theorem r_in (g : σ.get i = some (.dict es)) (h : dfit x es ∧ keyKind x ≠ 3) {o : Option V} (e : dget x es = o) (q : B o.isSome) : Op (inO x i σ B) := ⟨sV g ⟨h, e ▸ q⟩⟩
theorem r_exc {E : Nat → V → Prop} (g : σ.get i = some (.exc x)) (q : E i x) : Op (excO i σ E) := ⟨sV g q⟩
theorem r_srcL (g : σ.get i = some (.list l)) (q : L l) : Op (someL (srcItems σ (.obj i)) L) := ⟨sV (Option.bind_eq_some_iff.mpr ⟨_, g, rfl⟩) q⟩
end
end Mine.Internal
end
section
open PySem PySem.W
set_option maxRecDepth 100000
set_option maxHeartbeats 4000000
namespace Mine.Internal
set_option hygiene false
local macro_rules | `(tactic| wtm_at "W") => `(tactic| (conv => whnf))
local macro_rules | `(tactic| wtm_at "w") => `(tactic| try (conv => whnf))
local macro_rules | `(tactic| wtm_at "side") => `(tactic| first | assumption | with_reducible exact trivial | with_reducible rfl | exact Nat.le_of_ble_eq_true rfl | omega | (simp only [big, List.length_cons, List.length_nil, List.length_append, List.length_map, List.length_range, rangeL_len] at * <;> omega) | ((with_reducible apply And.intro) <;> wtm_at "side") | solve_by_elim | exact Nat.ne_of_beq_eq_false rfl | (change St.ver _ _ = St.ver _ _; wtm_at "st") | exact rfl | decide)
local macro_rules | `(tactic| wtm_at "ne") => `(tactic| (change _ ≠ _; first | with_reducible assumption | exact Ne.symm (by with_reducible assumption) | exact Nat.ne_of_beq_eq_false rfl | (apply St.ne_len'; wtm_at "is") | (apply St.len_ne'; wtm_at "is") | omega))
local macro_rules | `(tactic| wtm_at "is") => `(tactic| (change Option.isSome _ = true; first | with_reducible assumption | (apply isSome_of; wtm_at "sg") | exact (congrArg Option.isSome (by wtm_at "sg")).trans (by assumption)))
local macro_rules | `(tactic| wtm_at "u") => `(tactic| first | wtm_at "is" | wtm_at "ne" | wtm_at "sg")
local macro_rules | `(tactic| wtm_at "sg") => `(tactic| first
  | with_reducible rfl
  | with_reducible assumption
  | with_reducible exact St.ga_len
  | ((with_reducible first | apply St.gp_eq | apply gp_ne' | apply ga_old' | apply vp_ne' | apply va_old') <;> wtm_at "u")
  | ((with_reducible first | apply use1 | apply usv1) <;> wtm_at "u")
  | ((with_reducible first | apply use2 | apply usv2) <;> wtm_at "u")
  | ((with_reducible first | apply use3 | apply usv3) <;> wtm_at "u"))
local macro_rules | `(tactic| wtm_at "st") => `(tactic| first | wtm_at "sg" | (simp (maxDischargeDepth := 20) only [St.gp_eq, St.gp_ne, St.ga_len, St.ga_old, St.ne_len, St.len_ne, St.vp_ne, St.va_old, ne_eq, Option.isSome_some, Nat.reduceEqDiff, not_false_eq_true, *]))
local macro_rules | `(tactic| wtm_at "e") => `(tactic| first | assumption | exact rfl | (simp only [*]; done))
local macro_rules | `(tactic| wtm_at "x") => `(tactic| (case g => first | wtm_at "sg" | assumption))
local macro_rules | `(tactic| wtm_at "xf") => `(tactic| (wtm_at "x"; (case h => exact rfl); (case e => exact rfl)))
local macro_rules | `(tactic| wtm_at "xh") => `(tactic| (wtm_at "x"; (case h => wtm_at "side")))
local macro_rules | `(tactic| wtm_at "xe") => `(tactic| (wtm_at "xh"; (case e => wtm_at "e")))
local macro_rules | `(tactic| wtm_at "op") => `(tactic| (change Op _; first
  | ((with_reducible first | apply r_attr | apply r_setA); wtm_at "xf")
  | ((with_reducible first | apply r_subL | apply r_dget | apply r_in); wtm_at "xe")
  | ((with_reducible first | apply r_list | apply r_srcL | apply r_methL | apply r_methD | apply r_exc); wtm_at "x")
  | ((with_reducible first | apply r_setL | apply r_slice); wtm_at "xh")
  | ((with_reducible apply r_methU); wtm_at "xf")
  | ((with_reducible apply r_subD); wtm_at "xe")
  | ((with_reducible apply r_setD); wtm_at "xh")
  | (apply r_any; wtm_at "x"; wtm_at "W")))
local macro_rules | `(tactic| wtm_at "A") => `(tactic| (apply And.intro; (case left => wtm_at "side")))
local macro_rules | `(tactic| wtm_at "B") => `(tactic| first | (rw [d_t]; rotate_left; wtm_at "t") | (rw [d_f]; rotate_left; wtm_at "t"))
local macro_rules | `(tactic| wtm_at "t") => `(tactic| first | assumption | with_reducible rfl | omega)
local macro_rules | `(tactic| wtm_at "c") => `(tactic| first | rw [cmp_var] | rw [cmp_proceed] | rw [cmp_fail])
local macro_rules | `(tactic| wtm_at "one") => `(tactic| (first | wtm_at "op" | wtm_at "A" | wtm_at "B" | (wtm_at "W"; first | wtm_at "op" | wtm_at "A" | wtm_at "B" | wtm_at "c")))
local macro_rules | `(tactic| wtm_at "go") => `(tactic| (repeat' (wtm_at "one")))
local macro_rules | `(tactic| wtm_at "gw") => `(tactic| (wtm_at "go"; all_goals wtm_at "w"))
set_option hygiene true
section
section
variable {Γ : Env'} {σ : St} {Q X : V → St → Prop}

/- the program's table of symbols -/
structure SymAt (σ : St) (tx : List V) (an : List (V × V)) (fu : List V) (fn : List (V × V)) : Prop where
  i : σ.get 3 = some (.inst 0 [(0,.obj 4),(1,.obj 5),(2,.obj 6),(3,.obj 7)])
  tx : σ.get 4 = some (.list tx)
  an : σ.get 5 = some (.dict an)
  fu : σ.get 6 = some (.list fu)
  fn : σ.get 7 = some (.dict fn)

theorem sp_atom {t : Str} {an : List (V × V)} {n : Int} (G : Ok 1 Γ)
   (h3 : σ.get 3 = some (.inst 0 [(0,.obj 4),(1,.obj 5),(2,.obj 6),(3,.obj 7)])) (h5 : σ.get 5 = some (.dict an)) (hd : dfit (.str t) an) (hg : dget (.str t) an = some (.int n)) (hn : 0 ≤ n)
   (q : Q (.int n) σ) : Γ.fn 136 [.obj 3, .str t] σ Q X := by
  refine G.run fun Γ G => ⟨rfl, ?_⟩
  wtm_at "go"
  exact q
theorem sp_atom_new {t : Str} {an : List (V × V)} {tx : List V} (G : Ok 1 Γ)
   (h3 : σ.get 3 = some (.inst 0 [(0,.obj 4),(1,.obj 5),(2,.obj 6),(3,.obj 7)])) (h4 : σ.get 4 = some (.list tx)) (h5 : σ.get 5 = some (.dict an)) (hd : dfit (.str t) an) (hg : dget (.str t) an = none)
   (hl : tx.length < big) (hl2 : an.length < big)
   (q : Q (.int tx.length) ((σ.put 4 (.list (tx ++ [.str t]))).put 5 (.dict (dput (.str t) (.int tx.length) an)))) : Γ.fn 136 [.obj 3, .str t] σ Q X := by
  refine G.run fun Γ G => ⟨rfl, ?_⟩
  wtm_at "go"
  exact q
theorem sp_functor {a b n : Int} {fn : List (V × V)} (G : Ok 1 Γ)
   (h3 : σ.get 3 = some (.inst 0 [(0,.obj 4),(1,.obj 5),(2,.obj 6),(3,.obj 7)])) (h7 : σ.get 7 = some (.dict fn)) (hd : dfit (.tup [.int a, .int b]) fn) (hg : dget (.tup [.int a, .int b]) fn = some (.int n)) (hn : 0 ≤ n)
   (q : Q (.int n) σ) : Γ.fn 110 [.obj 3, .int a, .int b] σ Q X := by
  refine G.run fun Γ G => ⟨rfl, ?_⟩
  wtm_at "go"
  exact q
theorem sp_functor_new {a b : Int} {fu : List V} {fn : List (V × V)} (G : Ok 1 Γ)
   (h3 : σ.get 3 = some (.inst 0 [(0,.obj 4),(1,.obj 5),(2,.obj 6),(3,.obj 7)])) (h6 : σ.get 6 = some (.list fu)) (h7 : σ.get 7 = some (.dict fn)) (hd : dfit (.tup [.int a, .int b]) fn) (hg : dget (.tup [.int a, .int b]) fn = none) 
   (hl : fu.length < big) (hl2 : fn.length < big)
   (q : Q (.int fu.length) ((σ.put 6 (.list (fu ++ [.tup [.int a, .int b]]))).put 7 (.dict (dput (.tup [.int a, .int b]) (.int fu.length) fn)))) : Γ.fn 110 [.obj 3, .int a, .int b] σ Q X := by
  refine G.run fun Γ G => ⟨rfl, ?_⟩
  wtm_at "go"
  exact q
theorem sp_whole {n : Int} (G : Ok 1 Γ) (q : Q (.bool true) σ) : Γ.fn 13 [.int n] σ Q X := by
  refine G.run fun Γ G => ⟨rfl, ?_⟩
  wtm_at "go"
  exact q
theorem sp_pair {a b : V} (G : Ok 1 Γ) (q : Q (.bool true) σ) : Γ.fn 14 [.tup [a, b]] σ Q X := by
  refine G.run fun Γ G => ⟨rfl, ?_⟩
  wtm_at "go"
  exact q
end
end
section
/- rows of code -/
inductive Rw where
  | fail | pc (n : Int) | pr | tr (l a : Int) | re (l : Int) | tu (l : Int) | lab (l : Int)
noncomputable def Rw.v : Rw → V
  | .fail => .tup [.str "fail"]
  | .pc n => .tup [.str "put_constant", .tup [.int 5, .int n], .tup [.str "x", .int 1]]
  | .pr => .tup [.str "proceed"]
  | .tr l a => .tup [.str "try", .int l, .int a]
  | .re l => .tup [.str "retry", .int l]
  | .tu l => .tup [.str "trust", .int l]
  | .lab l => .tup [.str "label", .int l]
noncomputable def Rw.isLab : Rw → Bool
  | .lab _ => true
  | _ => false
/- a row that may be checked -/
noncomputable def Rw.fits : Rw → Prop
  | .fail | .pc _ | .pr => True
  | .tr l a => -1 ≤ l ∧ 0 ≤ a
  | .re l | .tu l => -1 ≤ l
  | .lab _ => False
noncomputable def SHs : List (Str × Str) := [⟨"get_variable", "RX"⟩, ⟨"get_value", "RX"⟩, ⟨"get_constant", "CX"⟩, ⟨"get_list", "X"⟩, ⟨"get_structure", "FX"⟩, ⟨"unify_variable", "R"⟩, ⟨"unify_value", "R"⟩, ⟨"unify_local_value", "R"⟩, ⟨"unify_constant", "C"⟩, ⟨"unify_void", "N"⟩, ⟨"put_variable", "RX"⟩, ⟨"put_void", "X"⟩, ⟨"put_value", "RX"⟩, ⟨"put_unsafe_value", "YX"⟩, ⟨"put_constant", "CX"⟩, ⟨"put_list", "X"⟩, ⟨"put_structure", "FX"⟩, ⟨"set_variable", "R"⟩, ⟨"set_value", "R"⟩, ⟨"set_local_value", "R"⟩, ⟨"set_constant", "C"⟩, ⟨"set_void", "N"⟩, ⟨"allocate", "N"⟩, ⟨"deallocate", ""⟩, ⟨"call", "FN"⟩, ⟨"execute", "F"⟩, ⟨"proceed", ""⟩, ⟨"builtin", "F"⟩, ⟨"neck_cut", ""⟩, ⟨"get_level", "R"⟩, ⟨"mark", "R"⟩, ⟨"cut_to", "R"⟩, ⟨"fail", ""⟩, ⟨"halt", ""⟩, ⟨"try", "LN"⟩, ⟨"retry", "L"⟩, ⟨"trust", "L"⟩, ⟨"switch_on_term", "LLLL"⟩, ⟨"switch_on_constant", "TL"⟩, ⟨"switch_on_structure", "UL"⟩, ⟨"meta_call", "N"⟩, ⟨"catch_push", ""⟩, ⟨"catch_exit", "Y"⟩, ⟨"catch_fail", ""⟩, ⟨"dyn_retry", ""⟩]
noncomputable def SH : List (V × V) := SHs.map fun p => (V.str p.1, V.str p.2)
theorem dfit_SH (t : Str) : dfit (.str t) SH := by
  refine ⟨Nat.succ_ne_zero _, fun e he => ?_⟩
  obtain ⟨p, _, rfl⟩ := List.mem_map.mp he
  rfl

/- what stands is kept -/
structure Fr (σ σ' : St) : Prop where
  g : ∀ j, (σ.get j).isSome = true → σ'.get j = σ.get j
  v : ∀ j, (σ.get j).isSome = true → σ'.ver j = σ.ver j

section
variable {Γ : Env'} {σ : St} {Q X : V → St → Prop}
theorem sp_islab {r : Rw} (G : Ok 1 Γ) (q : Q (.bool r.isLab) σ) : Γ.fn 23 [r.v] σ Q X := by
  refine G.run fun Γ G => ⟨rfl, ?_⟩
  cases r <;> (wtm_at "go"; exact q)
theorem sp_constant {n : Int} (G : Ok 2 Γ) (q : Q (.bool true) σ) : Γ.fn 16 [.tup [.int 5, .int n]] σ Q X := by
  refine G.run fun Γ G => ⟨rfl, ?_⟩
  refine sp_pair (G.le (by omega)) ?_
  wtm_at "go"
  refine sp_whole (G.le (by omega)) ?_
  exact q
theorem sp_reg (G : Ok 2 Γ) (q : Q (.bool true) σ) : Γ.fn 15 [.tup [.str "x", .int 1], .tup [.str "x"]] σ Q X := by
  refine G.run fun Γ G => ⟨rfl, ?_⟩
  refine sp_pair (G.le (by omega)) ?_
  wtm_at "go"
  refine sp_whole (G.le (by omega)) ?_
  wtm_at "go"
  exact q
theorem sp_fun {n : Int} (G : Ok 2 Γ) (hn : 0 ≤ n) (q : Q (.bool true) σ) : Γ.fn 17 [.int n] σ Q X := by
  refine G.run fun Γ G => ⟨rfl, ?_⟩
  refine sp_whole (G.le (by omega)) ?_
  wtm_at "w"
  rw [decide_eq_true (by omega)]
  exact q
theorem sp_target {n : Int} (G : Ok 2 Γ) (hn : -1 ≤ n) (q : Q (.bool true) σ) : Γ.fn 18 [.int n, .bool false] σ Q X := by
  refine G.run fun Γ G => ⟨rfl, ?_⟩
  refine sp_whole (G.le (by omega)) ?_
  wtm_at "w"
  rw [decide_eq_true (by omega)]
  exact q
theorem sp_opC {n : Int} (G : Ok 3 Γ) (q : Q (.bool true) σ) : Γ.fn 21 [.tup [.int 5, .int n], .str ⟨#[67]⟩, .bool false] σ Q X := by
  refine G.run fun Γ G => ⟨rfl, ?_⟩
  exact sp_constant (G.le (by omega)) q
theorem sp_opX (G : Ok 3 Γ) (q : Q (.bool true) σ) : Γ.fn 21 [.tup [.str "x", .int 1], .str ⟨#[88]⟩, .bool false] σ Q X := by
  refine G.run fun Γ G => ⟨rfl, ?_⟩
  exact sp_reg (G.le (by omega)) q
theorem sp_opN {n : Int} (G : Ok 3 Γ) (hn : 0 ≤ n) (q : Q (.bool true) σ) : Γ.fn 21 [.int n, .str ⟨#[78]⟩, .bool false] σ Q X := by
  refine G.run fun Γ G => ⟨rfl, ?_⟩
  exact sp_fun (G.le (by omega)) hn q
theorem sp_opL {n : Int} (G : Ok 3 Γ) (hn : -1 ≤ n) (q : Q (.bool true) σ) : Γ.fn 21 [.int n, .str ⟨#[76]⟩, .bool false] σ Q X := by
  refine G.run fun Γ G => ⟨rfl, ?_⟩
  exact sp_target (G.le (by omega)) hn q
theorem sp_check {r : Rw} (G : Ok 4 Γ) (h : σ.get 12 = some (.dict SH)) (hr : r.fits) (q : Q .none σ) : Γ.fn 22 [.obj 12, r.v, .bool false] σ Q X := by
  refine G.run fun Γ G => ⟨rfl, ?_⟩
  have hd := dfit_SH
  cases r with
  | lab l => exact hr.elim
  | fail | pr => 
    wtm_at "go"
    exact q
  | pc n =>
    wtm_at "go"
    refine sp_opC (G.le (by omega)) ?_
    wtm_at "go"
    refine sp_opX (G.le (by omega)) ?_
    wtm_at "go"
    exact q
  | tr l a =>
    wtm_at "go"
    refine sp_opL (G.le (by omega)) hr.1 ?_
    wtm_at "go"
    refine sp_opN (G.le (by omega)) hr.2 ?_
    wtm_at "go"
    exact q
  | re l | tu l =>
    wtm_at "go"
    refine sp_opL (G.le (by omega)) hr ?_
    wtm_at "go"
    exact q
end
section
variable {Γ : Env'} {σ : St} {Q X : V → St → Prop}
theorem sp_label {l x e : Int} {d : Nat} {ad : List (V × V)} (G : Ok 1 Γ) (h : σ.get d = some (.dict ad)) (hk : dfit (.int l) ad) (hd : dget (.int l) ad = some (.int x)) (hl : 0 ≤ l) (hx : x < e) (q : Q (.int x) σ) :
    Γ.fn 25 [.int l, .obj d, .int e] σ Q X := by
  refine G.run fun Γ G => ⟨rfl, ?_⟩
  wtm_at "go"
  exact q
/- what becomes of a row when its labels are known -/
noncomputable def Rw.res (ad : Int → Int) : Rw → Rw
  | .tr l a => .tr (ad l) a
  | .re l => .re (ad l)
  | .tu l => .tu (ad l)
  | r => r
noncomputable def Rw.lbl : Rw → Option Int
  | .tr l _ | .re l | .tu l => some l
  | _ => none
theorem sp_resolve {r : Rw} {e : Int} {d : Nat} {ad : List (V × V)} {f : Int → Int} (G : Ok 5 Γ) (h : σ.get 12 = some (.dict SH)) (hr : r.fits) (ha : σ.get d = some (.dict ad)) (hk : ∀ l, dfit (.int l) ad)
    (hl : ∀ l, r.lbl = some l → 0 ≤ l ∧ dget (.int l) ad = some (.int (f l)) ∧ f l < e) (q : ∀ σ', Fr σ σ' → Q (r.res f).v σ') : Γ.fn 27 [.obj 12, r.v, .obj d, .int e] σ Q X := by
  refine G.run fun Γ G => ⟨rfl, ?_⟩
  have hd := dfit_SH
  refine sp_check (G.le (by omega)) h hr ?_
  cases r with
  | lab l => exact hr.elim
  | fail | pr => 
    wtm_at "go"
    exact q _ ⟨fun j hj => by wtm_at "st", fun j hj => by wtm_at "st"⟩
  | pc n =>
    wtm_at "go"
    exact q _ ⟨fun j hj => by wtm_at "st", fun j hj => by wtm_at "st"⟩
  | tr l a =>
    obtain ⟨h1, h2, h3⟩ := hl l rfl
    wtm_at "go"
    refine sp_label (G.le (by omega)) (by wtm_at "st") (hk l) h2 h1 h3 ?_
    wtm_at "go"
    exact q _ ⟨fun j hj => by wtm_at "st", fun j hj => by wtm_at "st"⟩
  | re l | tu l =>
    obtain ⟨h1, h2, h3⟩ := hl l rfl
    wtm_at "go"
    refine sp_label (G.le (by omega)) (by wtm_at "st") (hk l) h2 h1 h3 ?_
    wtm_at "go"
    exact q _ ⟨fun j hj => by wtm_at "st", fun j hj => by wtm_at "st"⟩
end
end
section
noncomputable def Has (ℓ : Loc) : List (Nat × V) → Prop
  | [] => True
  | (i, v) :: r => ℓ i = some v ∧ Has ℓ r
noncomputable def setAll : List (Nat × V) → Loc → Loc
  | [], ℓ => ℓ
  | (i, v) :: r, ℓ => (setAll r ℓ).set i v
set_option tactic.hygienic true in
theorem Has.self {ℓ : Loc} : ∀ {l : List (Nat × V)}, Has ℓ l → setAll l ℓ = ℓ
  | [], _ => rfl
  | (i, v) :: r, ⟨h, h'⟩ => by
    show (setAll r ℓ).set i v = ℓ
    rw [h'.self]
    funext j
    show (if j = i then some v else ℓ j) = ℓ j
    split
    · rename_i e; rw [e, h]
    · rfl
theorem Has.ex {ℓ : Loc} {l : List (Nat × V)} (h : Has ℓ l) : ∃ ℓ0, ℓ = setAll l ℓ0 := ⟨ℓ, h.self.symm⟩

theorem for_map {α : Type} {body : Loc → St → (Fl → Loc → St → Prop) → Prop} {v : V} {n x : Nat} {Q : Fl → Loc → St → Prop} {l : List α} {ℓ : Loc} {σ : St} (g : α → V) (I : List α → Loc → St → Prop)
    (h0 : I [] ℓ σ) (hv : ∀ d ℓ σ, I d ℓ σ → srcVer σ v = n) (hs : ∀ d a r ℓ σ K, l = d ++ a :: r → I d ℓ σ → (∀ ℓ' σ', I (d ++ [a]) ℓ' σ' → K .next ℓ' σ') → body (ℓ.set x (g a)) σ K)
    (he : ∀ ℓ σ, I l ℓ σ → Q .next ℓ σ) : forLoop body v n x (l.map g) ℓ σ Q := by
  suffices h : ∀ (r d : List α) (ℓ : Loc) (σ : St), l = d ++ r → I d ℓ σ → forLoop body v n x (r.map g) ℓ σ Q from h l [] ℓ σ rfl h0
  intro r
  induction r with
  | nil =>
    intro d ℓ σ e i
    rw [List.append_nil] at e
    subst e
    exact ⟨hv _ _ _ i, he _ _ i⟩
  | cons a r ih =>
    intro d ℓ σ e i
    refine ⟨hv _ _ _ i, hs d a r ℓ σ _ e i fun ℓ' σ' i' => ?_⟩
    exact ih (d ++ [a]) ℓ' σ' (by rw [e, List.append_assoc]; rfl) i'
theorem for_list {body : Loc → St → (Fl → Loc → St → Prop) → Prop} {v : V} {n x : Nat} {Q : Fl → Loc → St → Prop} {l : List V} {ℓ : Loc} {σ : St} (I : List V → Loc → St → Prop)
    (h0 : I [] ℓ σ) (hv : ∀ d ℓ σ, I d ℓ σ → srcVer σ v = n) (hs : ∀ d a r ℓ σ K, l = d ++ a :: r → I d ℓ σ → (∀ ℓ' σ', I (d ++ [a]) ℓ' σ' → K .next ℓ' σ') → body (ℓ.set x a) σ K)
    (he : ∀ ℓ σ, I l ℓ σ → Q .next ℓ σ) : forLoop body v n x l ℓ σ Q := by
  have := for_map (l := l) (g := id) I h0 hv hs he
  rwa [List.map_id] at this
theorem comp_map {α : Type} {elt : Loc → St → (V → St → Prop) → Prop} {conds : Loc → St → (Bool → St → Prop) → Prop} {v : V} {n x : Nat} {Q : List V → St → Prop} {l : List α} {ℓ : Loc} {σ : St} (g : α → V) (I : List α → List V → St → Prop)
    (h0 : I [] [] σ) (hv : ∀ d acc σ, I d acc σ → srcVer σ v = n)
    (hs : ∀ d a r acc σ (K : List V → St → Prop), l = d ++ a :: r → I d acc σ → (∀ acc' σ', I (d ++ [a]) acc' σ' → K acc' σ') → conds (ℓ.set x (g a)) σ fun b σ' => ifB b (elt (ℓ.set x (g a)) σ' fun y σ'' => K (acc ++ [y]) σ'') (K acc σ'))
    (he : ∀ acc σ, I l acc σ → Q acc σ) : compLoop elt conds v n x ℓ (l.map g) [] σ Q := by
  suffices h : ∀ (r d : List α) (acc : List V) (σ : St), l = d ++ r → I d acc σ → compLoop elt conds v n x ℓ (r.map g) acc σ Q from h l [] [] σ rfl h0
  intro r
  induction r with
  | nil =>
    intro d acc σ e i
    rw [List.append_nil] at e
    subst e
    exact ⟨hv _ _ _ i, he _ _ i⟩
  | cons a r ih =>
    intro d acc σ e i
    refine ⟨hv _ _ _ i, ?_⟩
    exact hs d a r acc σ _ e i fun acc' σ' i' => ih (d ++ [a]) acc' σ' (by rw [e, List.append_assoc]; rfl) i'

theorem Fr.refl (σ : St) : Fr σ σ := ⟨fun ζ ζ => rfl, fun ζ ζ => rfl⟩
theorem Fr.trans {a b c : St} (x : Fr a b) (y : Fr b c) : Fr a c :=
  ⟨fun j h => (y.g j (by rw [x.g j h]; exact h)).trans (x.g j h), fun j h => (y.v j (by rw [x.g j h]; exact h)).trans (x.v j h)⟩

/- the labels of a block -/
noncomputable def labL : List Rw → List Int
  | [] => []
  | .lab l :: r => l :: labL r
  | _ :: r => labL r
noncomputable def cnt : List Rw → Int
  | [] => 0
  | .lab _ :: r => cnt r
  | _ :: r => cnt r + 1
noncomputable def labsOf : List Rw → Int → List (V × V)
  | [], _ => []
  | .lab l :: r, a => (.int l, .int a) :: labsOf r a
  | _ :: r, a => labsOf r (a + 1)
theorem labL_append : ∀ {a b : List Rw}, labL (a ++ b) = labL a ++ labL b
  | [], _ => rfl
  | x :: a, b => by cases x <;> simp [labL, labL_append]
theorem cnt_append : ∀ {a b : List Rw}, cnt (a ++ b) = cnt a + cnt b
  | [], _ => by simp [cnt]
  | x :: a, b => by cases x <;> simp [cnt, cnt_append] <;> omega
theorem labsOf_append : ∀ {a b : List Rw} {n : Int}, labsOf (a ++ b) n = labsOf a n ++ labsOf b (n + cnt a)
  | [], _, _ => by simp [labsOf, cnt]
  | x :: a, b, n => by cases x <;> simp [labsOf, cnt, labsOf_append] <;> congr 1 <;> omega
theorem labsOf_len : ∀ {a : List Rw} {n : Int}, (labsOf a n).length ≤ a.length
  | [], _ => Nat.le_refl _
  | x :: a, n => by cases x <;> simp only [labsOf, List.length_cons] <;> first | exact Nat.succ_le_succ labsOf_len | exact Nat.le_succ_of_le labsOf_len
theorem labsOf_none : ∀ {a : List Rw} {n l : Int}, l ∉ labL a → dget (.int l) (labsOf a n) = none
  | [], _, _, _ => rfl
  | x :: a, n, l, h => by
    cases x with
    | lab m =>
      simp only [labL, List.mem_cons, not_or] at h
      show (if eqKey (.int m) (.int l) then _ else _) = none
      rw [if_neg]
      · exact labsOf_none h.2
      · simp [eqKey]; exact fun e => h.1 e.symm
    | _ => exact labsOf_none (a := a) h
theorem labsOf_fit : ∀ {a : List Rw} {n l : Int}, dfit (.int l) (labsOf a n)
  | [], _, _ => ⟨Nat.succ_ne_zero _, fun ζ h => by cases h⟩
  | x :: a, n, l => by
    refine ⟨Nat.succ_ne_zero _, fun e he => ?_⟩
    cases x with
    | lab m =>
      rcases List.mem_cons.mp he with rfl | he
      · rfl
      · exact (labsOf_fit (a := a) (l := l)).2 e he
    | _ => exact (labsOf_fit (a := a) (l := l)).2 e he
set_option tactic.hygienic true in
theorem dput_new : ∀ {es : List (V × V)} {k v : V}, dget k es = none → dput k v es = es ++ [(k, v)]
  | [], _, _, _ => rfl
  | (x, u) :: r, k, v, h => by
    unfold dget at h
    unfold dput
    split at h
    · cases h
    · rename_i e
      rw [if_neg e, dput_new h]; rfl

section
variable {Γ : Env'} {σ : St} {Q X : V → St → Prop}
theorem sp_labels {rows : List Rw} {b : Nat} {base : Int} (G : Ok 2 Γ) (hb : σ.get b = some (.list (rows.map Rw.v))) (hlen : rows.length < big) (hnd : (labL rows).Nodup) (hpos : ∀ l ∈ labL rows, 0 ≤ l)
    (q : ∀ σ', Fr σ σ' → σ'.get σ.len = some (.dict (labsOf rows base)) → Q (.obj σ.len) σ') : Γ.fn 24 [.obj b, .int base] σ Q X := by
  refine G.run fun Γ G => ⟨rfl, ?_⟩
  wtm_at "go"
  refine for_map (l := rows) Rw.v (fun d ℓ σ' => Has ℓ [(2, .obj σ.len), (3, .int (base + cnt d))] ∧ Fr σ σ' ∧ σ'.get σ.len = some (.dict (labsOf d base))) ?_ ?_ ?_ ?_
  · refine ⟨⟨rfl, ?_, trivial⟩, ⟨fun j hj => by wtm_at "st", fun j hj => by wtm_at "st"⟩, by wtm_at "st" <;> rfl⟩
    simp only [cnt, Int.add_zero]; rfl
  · rintro d ℓ σ' ⟨h1, ⟨h2, h2'⟩, h3⟩
    simp only [srcVer]
    wtm_at "st"
  · rintro d a r ℓ σ' K e ⟨h1, ⟨h2, h2'⟩, h3⟩ k
    obtain ⟨ℓ, rfl⟩ := h1.ex
    refine sp_islab (G.le (by omega)) ?_
    have hcnt : cnt (d ++ [a]) = cnt d + cnt [a] := cnt_append
    cases a with
    | lab l =>
      have hm : l ∈ labL rows := by rw [e, labL_append]; simp [labL]
      have hl := hpos l hm
      have hno : l ∉ labL d := by
        rw [e, labL_append, List.nodup_append] at hnd
        intro hh
        exact hnd.2.2 l hh l (by simp [labL]) rfl
      have hg := labsOf_none (n := base) hno
      have hf := labsOf_fit (a := d) (n := base) (l := l)
      have hlb : (labsOf d base).length < big := Nat.lt_of_le_of_lt labsOf_len (by rw [e] at hlen; simp at hlen; omega)
      wtm_at "go"
      refine sp_whole (G.le (by omega)) ?_
      wtm_at "go"
      have hlt : σ.len < σ'.len := St.get_lt h3
      refine k _ _ ⟨⟨rfl, ?_, trivial⟩, ⟨fun j hj => by wtm_at "st", fun j hj => by wtm_at "st"⟩, ?_⟩
      · rw [hcnt]
        simp only [cnt, Int.add_zero]; rfl
      · rw [labsOf_append]
        wtm_at "st"
        rw [dput_new hg]
        rfl
    | _ =>
      wtm_at "go"
      refine k _ _ ⟨⟨rfl, ?_, trivial⟩, ⟨h2, h2'⟩, ?_⟩
      · rw [hcnt]
        simp only [cnt]
        show some (V.int _) = _
        congr 2
        omega
      · rw [labsOf_append, h3]
        simp [labsOf]
  · rintro ℓ σ' ⟨h1, h2, h3⟩
    obtain ⟨ℓ, rfl⟩ := h1.ex
    exact q σ' h2 h3

/- a label's address -/
noncomputable def labAt (rows : List Rw) (base l : Int) : Int := match dget (.int l) (labsOf rows base) with
  | some (.int x) => x
  | _ => 0
noncomputable def Rw.row (r : Rw) : Bool := !r.isLab
theorem sp_assemble {rows : List Rw} {b : Nat} {base : Int} (G : Ok 6 Γ) (hS : σ.get 12 = some (.dict SH)) (hb : σ.get b = some (.list (rows.map Rw.v))) (hlen : rows.length < big) (hnd : (labL rows).Nodup) (hpos : ∀ l ∈ labL rows, 0 ≤ l)
    (hfit : ∀ r ∈ rows, r.isLab = false → r.fits) (hlb : ∀ r ∈ rows, ∀ l, r.lbl = some l → 0 ≤ l ∧ dget (.int l) (labsOf rows base) = some (.int (labAt rows base l)) ∧ labAt rows base l < base + (rows.filter Rw.row).length)
    (q : ∀ σ' o, Fr σ σ' → σ.len ≤ o → σ'.get o = some (.list ((rows.filter Rw.row).map fun r => (r.res (labAt rows base)).v)) → Q (.obj o) σ') : Γ.fn 28 [.obj b, .int base, .obj 12] σ Q X := by
  refine G.run fun Γ G => ⟨rfl, ?_⟩
  refine sp_labels (G.le (by omega)) hb hlen hnd hpos fun σ₁ F₁ hd₁ => ?_
  obtain ⟨h2, h2'⟩ := F₁
  wtm_at "go"
  refine comp_map Rw.v (fun d acc σ' => acc = (d.filter Rw.row).map Rw.v ∧ σ' = σ₁) ⟨rfl, rfl⟩ ?_ ?_ ?_
  · rintro d acc σ' ⟨_, rfl⟩; rfl
  · rintro d a r acc σ' K e ⟨rfl, rfl⟩ k
    refine sp_islab (G.le (by omega)) ?_
    cases hh : a.isLab
    · skip
      refine k _ _ ⟨?_, rfl⟩
      rw [List.filter_append, List.map_append]
      simp [List.filter, Rw.row, hh]
    · skip
      refine k _ _ ⟨?_, rfl⟩
      rw [List.filter_append, List.map_append]
      simp [List.filter, Rw.row, hh]
  · rintro acc σ₂ ⟨rfl, rfl⟩
    have hfl : (rows.filter Rw.row).length ≤ rows.length := List.length_filter_le ..
    wtm_at "go"
    refine comp_map (l := rows.filter Rw.row) Rw.v (fun d acc σ' => acc = d.map (fun r => (r.res (labAt rows base)).v) ∧ Fr (σ₂.add (.list ((rows.filter Rw.row).map Rw.v))) σ') ⟨rfl, Fr.refl _⟩ ?_ ?_ ?_
    · rintro d acc σ' ⟨_, h4, h4'⟩
      simp only [srcVer]
      wtm_at "st"
    · rintro d a r acc σ' K e ⟨rfl, h4, h4'⟩ k
      have hm : a ∈ rows.filter Rw.row := by rw [e]; simp
      obtain ⟨hm1, hm2⟩ := List.mem_filter.mp hm
      have hm3 : a.isLab = false := by simpa [Rw.row] using hm2
      rw [List.length_map]
      refine sp_resolve (G.le (by omega)) (ad := labsOf rows base) (f := labAt rows base) (by wtm_at "st") (hfit a hm1 hm3) (by wtm_at "st") (fun ζ => labsOf_fit) (hlb a hm1) fun σ₃ F₃ => ?_
      refine k _ _ ⟨by simp, Fr.trans ⟨h4, h4'⟩ F₃⟩
    · rintro acc σ' ⟨rfl, h4, h4'⟩
      refine q _ _ ⟨fun j hj => by wtm_at "st", fun j hj => by wtm_at "st"⟩ ?_ (by wtm_at "st")
      have := St.get_lt hd₁
      have := St.get_lt (show σ'.get σ.len = some (.dict (labsOf rows base)) by wtm_at "st")
      omega
end
end
section
noncomputable def okS (x : Str) : Bool := x.cps.toList.all fun c => decide (c < 0x110000)
theorem strOk_of {x : Str} (h : okS x = true) : PySem.PyData.strOk x = true := by
  unfold okS at h
  unfold PySem.PyData.strOk
  rw [← Array.all_toList]
  exact h
mutual
noncomputable def okV : Nat → V → Bool
  | _, .none | _, .bool _ | _, .int _ => true
  | _, .str s => okS s
  | d + 1, .tup l => okVs d l
  | 0, .tup _ | _, .obj _ | _, .rng _ _ => false
noncomputable def okVs : Nat → List V → Bool
  | _, [] => true
  | d, x :: r => okV d x && okVs d r
end
mutual
theorem okV_spec : ∀ {d : Nat} {v : V}, okV d v = true → isT v = true ∧ (toP v).canLay0 = true ∧ (toP v).depth ≤ d
  | d, .none, _ => ⟨rfl, rfl, by simp [toP, PyData.depth]⟩
  | d, .bool _, _ => ⟨rfl, rfl, by simp [toP, PyData.depth]⟩
  | d, .int _, _ => ⟨rfl, rfl, by simp [toP, PyData.depth]⟩
  | d, .str s, h => ⟨rfl, by simp only [toP, PyData.canLay0]; exact strOk_of (by simpa [okV] using h), by simp [toP, PyData.depth]⟩
  | 0, .tup _, h => by simp [okV] at h
  | d + 1, .tup l, h => by
    have := okVs_spec (d := d) (l := l) (by simpa [okV] using h)
    simp only [isT, toP, PyData.canLay0, PyData.depth]
    exact ⟨this.1, this.2.1, Nat.succ_le_succ this.2.2⟩
  | _, .obj _, h => by simp [okV] at h
  | _, .rng _ _, h => by simp [okV] at h
theorem okVs_spec : ∀ {d : Nat} {l : List V}, okVs d l = true → isTs l = true ∧ PyData.canLayAll0 (toPs l) = true ∧ PyData.depthAll (toPs l) ≤ d
  | d, [], _ => ⟨rfl, rfl, by simp [toPs, PyData.depthAll]⟩
  | d, x :: r, h => by
    simp only [okVs, Bool.and_eq_true] at h
    have h1 := okV_spec h.1
    have h2 := okVs_spec h.2
    simp only [isTs, toPs, PyData.canLayAll0, PyData.depthAll, Bool.and_eq_true]
    exact ⟨⟨h1.1, h2.1⟩, ⟨h1.2.1, h2.2.1⟩, Nat.max_le.mpr ⟨h1.2.2, h2.2.2⟩⟩
end
theorem okVs_mem {d : Nat} : ∀ {l : List V}, (∀ x ∈ l, okV d x = true) → okVs d l = true
  | [], _ => rfl
  | x :: r, h => by
    simp only [okVs, Bool.and_eq_true]
    exact ⟨h x (.head _), okVs_mem fun y hy => h y (.tail _ hy)⟩
theorem mem_okVs {d : Nat} : ∀ {l : List V}, okVs d l = true → ∀ x ∈ l, okV d x = true
  | [], _, x, h => by cases h
  | y :: r, h, x, hx => by
    simp only [okVs, Bool.and_eq_true] at h
    rcases List.mem_cons.mp hx with rfl | hx
    · exact h.1
    · exact mem_okVs h.2 x hx
section
variable {σ : St}
theorem dat_tup {l : List V} (h : okVs 60 l = true) : datV (.tup l) σ = some (toP (.tup l)) := by
  obtain ⟨a, b, c⟩ := okVs_spec h
  show (if _ then _ else _) = _
  rw [if_pos]
  simp only [isT, a, toP, Bool.true_and, SeqAt.shaped, PyData.canLay0, b, PyData.depth, decide_eq_true_eq]
  omega
theorem dat_list {i : Nat} {l : List V} (g : σ.get i = some (.list l)) (h : okVs 60 l = true) : datV (.obj i) σ = some (.list (toPs l)) := by
  obtain ⟨a, b, c⟩ := okVs_spec h
  show (σ.get i).bind (fun o => o.lst.bind datL) = _
  rw [g]
  show (if _ then _ else _) = _
  rw [if_pos]
  simp only [a, Bool.true_and, SeqAt.shaped, PyData.canLay0, b, PyData.depth]
  exact decide_eq_true (by omega)
theorem eq_tup {l m : List V} (h : okVs 60 l = true) (h' : okVs 60 m = true) : eqV (.tup l) (.tup m) σ = some (PyData.eqvAll (toPs l) (toPs m)) := by
  show ((datV (.tup l) σ).bind fun d => (datV (.tup m) σ).map fun e => PyData.eqv d e) = _
  rw [dat_tup h, dat_tup h']
  simp only [Option.bind_some, Option.map_some, toP, PyData.eqv]
theorem eq_list {i j : Nat} {l m : List V} (g : σ.get i = some (.list l)) (g' : σ.get j = some (.list m)) (h : okVs 60 l = true) (h' : okVs 60 m = true) : eqV (.obj i) (.obj j) σ = some (PyData.eqvAll (toPs l) (toPs m)) := by
  show ((datV (.obj i) σ).bind fun d => (datV (.obj j) σ).map fun e => PyData.eqv d e) = _
  rw [dat_list g h, dat_list g' h']
  simp only [Option.bind_some, Option.map_some, PyData.eqv]
theorem eqv_self {l : List V} (h : okVs 60 l = true) : PyData.eqvAll (toPs l) (toPs l) = true := PySem.SeqAt.eqvAll_refl _ (okVs_spec h).2.1
theorem ne_tup_self {l : List V} (h : okVs 60 l = true) : cmpV .NotEq (.tup l) (.tup l) σ = some false := by
  show notT (eqV _ _ _) = _
  rw [eq_tup h h, eqv_self h]; rfl
theorem ne_list_self {i j : Nat} {l : List V} (g : σ.get i = some (.list l)) (g' : σ.get j = some (.list l)) (h : okVs 60 l = true) : cmpV .NotEq (.obj i) (.obj j) σ = some false := by
  show notT (eqV _ _ _) = _
  rw [eq_list g g' h h, eqv_self h]; rfl
theorem eq_list_self {i j : Nat} {l : List V} (g : σ.get i = some (.list l)) (g' : σ.get j = some (.list l)) (h : okVs 60 l = true) : cmpV .Eq (.obj i) (.obj j) σ = some true := by
  show eqV (.obj i) (.obj j) σ = _
  rw [eq_list g g' h h, eqv_self h]
theorem cmp_var : cmpV .NotEq (.tup [.str "var"]) (.tup [.str "var"]) σ = some false := ne_tup_self rfl
theorem cmp_proceed : cmpV .NotEq Rw.pr.v (.tup [.str "proceed"]) σ = some false := ne_tup_self rfl
/- is the row fail? -/
noncomputable def Rw.isFail : Rw → Bool
  | .fail => true
  | _ => false
theorem okV_row (r : Rw) : okV 60 r.v = true := by
  cases r <;> rfl
theorem cmp_fail {r : Rw} : cmpV .Eq r.v (.tup [.str "fail"]) σ = some r.isFail := by
  cases r <;> (refine (eq_tup ?_ ?_).trans ?_ <;> rfl)
end
end
local macro_rules | `(tactic| wtm_at "c") => `(tactic| first | rw [cmp_var] | rw [cmp_proceed] | rw [cmp_fail])
section
structure Fr1 (i : Nat) (σ σ' : St) : Prop where
  g : ∀ j, (σ.get j).isSome = true → i ≠ j → σ'.get j = σ.get j
  v : ∀ j, (σ.get j).isSome = true → i ≠ j → σ'.ver j = σ.ver j
structure Fr2 (i k : Nat) (σ σ' : St) : Prop where
  g : ∀ j, (σ.get j).isSome = true → i ≠ j → k ≠ j → σ'.get j = σ.get j
  v : ∀ j, (σ.get j).isSome = true → i ≠ j → k ≠ j → σ'.ver j = σ.ver j

/- a clause's code: its object, its rows' list, its number -/
structure Cd where
  c : Nat
  i : Nat
  n : Int
noncomputable def codeO (f : Int) (i : Nat) : O := .inst 5 [(10, .int f), (28, .tup [.str "var"]), (29, .obj i), (30, .int 1)]
structure CdAt (σ : St) (f : Int) (x : Cd) : Prop where
  c : σ.get x.c = some (codeO f x.i)
  i : σ.get x.i = some (.list [(Rw.pc x.n).v, Rw.pr.v])
noncomputable def cdsO (cs : List Cd) : O := .list (cs.map fun x => .obj x.c)
noncomputable def idx (n : Nat) : List V := (List.range n).map fun (j : Nat) => V.int j
theorem rangeL_idx (n : Nat) : rangeL 0 n = idx n := by simp [rangeL, idx]
noncomputable def bbO (ar : Int) (c r ch kn : Nat) (n : Int) : O := .inst 1 [(4, .int ar), (5, .obj c), (6, .obj r), (7, .obj ch), (8, .obj kn), (9, .int n)]
noncomputable def tryRows (n : Nat) (ar : Int) : List Rw := .tr 0 ar :: ((List.range (n - 2)).map fun (i : Nat) => Rw.re (1 + (i : Int))) ++ [.tu ((n : Int) - 1)]
noncomputable def bodyRows : Int → List Int → List Rw
  | _, [] => []
  | i, n :: r => .lab i :: .pc n :: .pr :: bodyRows (i + 1) r
noncomputable def blockOf (ar : Int) : List Int → List Rw
  | [] => [.fail]
  | [n] => [.pc n, .pr]
  | ns => tryRows ns.length ar ++ bodyRows 0 ns

section
variable {Γ : Env'} {σ : St} {Q X : V → St → Prop}
theorem sp_allvar {c : Nat} {f : Int} {cs : List Cd} (G : Ok 1 Γ) (hc : σ.get c = some (cdsO cs)) (hl : cs.length < big) (hcs : ∀ x ∈ cs, CdAt σ f x) (q : Q (.bool true) σ) : Γ.fn 7 [.obj c] σ Q X := by
  refine G.run fun Γ G => ⟨rfl, ?_⟩
  unfold cdsO at hc
  wtm_at "go"
  refine for_map (fun x : Cd => V.obj x.c) (fun d ℓ σ' => σ' = σ) rfl ?_ ?_ ?_
  · rintro d ℓ σ' rfl; rfl
  · rintro d a r ℓ σ' K e rfl k
    have hx := (hcs a (by rw [e]; simp)).c
    wtm_at "go"
    exact k _ _ rfl
  · rintro ℓ σ' rfl
    exact q
theorem sp_small0 {c : Nat} (G : Ok 1 Γ) (hc : σ.get c = some (cdsO [])) (q : ∀ σ' o, Fr σ σ' → σ'.get o = some (.list ((blockOf 0 []).map Rw.v)) → Q (.obj o) σ') : Γ.fn 8 [.obj c] σ Q X := by
  refine G.run fun Γ G => ⟨rfl, ?_⟩
  unfold cdsO at hc
  wtm_at "go"
  exact q _ _ ⟨fun j hj => by wtm_at "st", fun j hj => by wtm_at "st"⟩ (by wtm_at "st" <;> rfl)
theorem sp_small1 {c : Nat} {f ar : Int} {x : Cd} (G : Ok 1 Γ) (hc : σ.get c = some (cdsO [x])) (hx : CdAt σ f x) (q : ∀ σ' o, Fr σ σ' → σ'.get o = some (.list ((blockOf ar [x.n]).map Rw.v)) → Q (.obj o) σ') : Γ.fn 8 [.obj c] σ Q X := by
  refine G.run fun Γ G => ⟨rfl, ?_⟩
  unfold cdsO at hc
  obtain ⟨h1, h2⟩ := hx
  wtm_at "go"
  exact q _ _ ⟨fun j hj => by wtm_at "st", fun j hj => by wtm_at "st"⟩ (by wtm_at "st" <;> rfl)
theorem sp_bb {s c : Nat} {ar : Int} {cs : List Cd} (G : Ok 1 Γ) (hs : σ.get s = some (.inst 1 [])) (hc : σ.get c = some (cdsO cs)) (hl : cs.length < big) (hne : s ≠ c)
    (q : ∀ σ' r ch kn nl, Fr1 s σ σ' → σ'.get s = some (bbO ar c r ch kn nl) → σ'.get r = some (.list []) → σ'.get ch = some (.list []) → s ≠ r → s ≠ ch → r ≠ ch → σ.len ≤ r → σ.len ≤ ch → Q .none σ') : Γ.fn 51 [.obj s, .int ar, .obj c] σ Q X := by
  refine G.run fun Γ G => ⟨rfl, ?_⟩
  unfold cdsO at hc
  wtm_at "go"
  refine q _ _ _ _ _ ?zfr (St.gp_eq ?za) ?zb ?zc ?zd ?ze ?zf ?zg ?zh
  case zfr => exact ⟨fun j hj hne => by wtm_at "st", fun j hj hne => by wtm_at "st"⟩
  case zf => simp only [St.len_put, St.len_add]; omega
  case zg => simp only [St.len_put, St.len_add]; omega
  case zh => simp only [St.len_put, St.len_add]; omega
  all_goals wtm_at "st"
theorem idx_get {n k : Nat} (h : k < n) : (idx n)[k]? = some (.int k) := by
  unfold idx
  rw [List.getElem?_map, List.getElem?_range h]; rfl
theorem idx_getI {n : Nat} {k : Int} (h0 : 0 ≤ k) (h : k < n) : (idx n)[k.toNat]? = some (.int k) := by
  rw [idx_get (by omega), Int.toNat_of_nonneg h0]
theorem sp_rows {b c r ch kn L n : Nat} {ar nl : Int} (G : Ok 1 Γ) (hb : σ.get b = some (bbO ar c r ch kn nl)) (hL : σ.get L = some (.list (idx n))) (hn : 2 ≤ n) (hn2 : n < 10000)
    (q : ∀ σ' o, Fr σ σ' → σ.len ≤ o → σ'.get o = some (.list ((tryRows n ar).map Rw.v)) → Q (.obj o) σ') : Γ.fn 240 [.obj b, .obj L] σ Q X := by
  refine G.run fun Γ G => ⟨rfl, ?_⟩
  have hlen : (idx n).length = n := by simp [idx]
  wtm_at "go"
  try rw [idx_getI (by omega) (by omega)]
  wtm_at "go"
  try rw [hlen]
  rw [rangeL_map]
  refine for_map (l := List.range ((n : Int) - 1 - 1).toNat) (fun (j : Nat) => V.int (1 + (j : Int))) (fun d ℓ σ' => Has ℓ [(1, .obj L), (2, .obj σ.len), (3, .int ((n : Int) - 1))] ∧ Fr σ σ' ∧ σ'.get σ.len = some (.list ((Rw.tr 0 ar).v :: d.map fun (i : Nat) => (Rw.re (1 + (i : Int))).v))) ?_ ?_ ?_ ?_
  · refine ⟨⟨rfl, rfl, rfl, trivial⟩, ⟨fun j hj => by wtm_at "st", fun j hj => by wtm_at "st"⟩, by wtm_at "st" <;> rfl⟩
  · rintro d ℓ σ' _; rfl
  · rintro d a r ℓ σ' K e ⟨h1, ⟨h2, h2'⟩, h3⟩ k
    obtain ⟨ℓ, rfl⟩ := h1.ex
    have ha : a < ((n : Int) - 1 - 1).toNat := by
      have : a ∈ List.range ((n : Int) - 1 - 1).toNat := by rw [e]; simp
      exact List.mem_range.mp this
    have hd : d.length < 10000 := by
      have := congrArg List.length e
      simp at this; omega
    wtm_at "go"
    try rw [idx_getI (by omega) (by omega)]
    wtm_at "go"
    refine k _ _ ⟨⟨rfl, rfl, rfl, trivial⟩, ⟨fun j hj => by wtm_at "st", fun j hj => by wtm_at "st"⟩, ?_⟩
    wtm_at "st"
    simp [Rw.v]
  · rintro ℓ σ' ⟨h1, ⟨h2, h2'⟩, h3⟩
    obtain ⟨ℓ, rfl⟩ := h1.ex
    wtm_at "go"
    try rw [idx_getI (by omega) (by omega)]
    wtm_at "go"
    refine q _ _ ⟨fun j hj => by wtm_at "st", fun j hj => by wtm_at "st"⟩ (Nat.le_refl _) ?_
    wtm_at "st"
    have : ((n : Int) - 1 - 1).toNat = n - 2 := by omega
    rw [this]
    simp [tryRows, Rw.v]
    rfl
end
end
section
theorem range_cut {n a : Nat} {d r : List Nat} (e : List.range n = d ++ a :: r) : a = d.length ∧ a < n := by
  have h1 : d.length < n := by
    have := congrArg List.length e
    simp at this; omega
  have h2 := congrArg (fun l => l[d.length]?) e
  simp only [List.getElem?_range h1] at h2
  rw [List.getElem?_append_right (Nat.le_refl _), Nat.sub_self] at h2
  have : d.length = a := by simpa using h2
  omega
theorem for_range {body : Loc → St → (Fl → Loc → St → Prop) → Prop} {v : V} {n x N : Nat} {Q : Fl → Loc → St → Prop} {ℓ : Loc} {σ : St} (g : Nat → V) (I : Nat → Loc → St → Prop)
    (h0 : I 0 ℓ σ) (hv : ∀ k ℓ σ, I k ℓ σ → srcVer σ v = n) (hs : ∀ k ℓ σ K, k < N → I k ℓ σ → (∀ ℓ' σ', I (k + 1) ℓ' σ' → K .next ℓ' σ') → body (ℓ.set x (g k)) σ K)
    (he : ∀ ℓ σ, I N ℓ σ → Q .next ℓ σ) : forLoop body v n x ((List.range N).map g) ℓ σ Q := by
  refine for_map (l := List.range N) g (fun d ℓ σ => I d.length ℓ σ) h0 (fun d => hv _) ?_ ?_
  · intro d a r ℓ σ K e i k
    obtain ⟨h1, h2⟩ := range_cut e
    rw [h1]
    exact hs _ ℓ σ K (h1 ▸ h2) i fun ℓ' σ' i' => k ℓ' σ' (by simpa using i')
  · intro ℓ σ i
    exact he ℓ σ (by simpa using i)
theorem comp_range {elt : Loc → St → (V → St → Prop) → Prop} {conds : Loc → St → (Bool → St → Prop) → Prop} {v : V} {n x N : Nat} {Q : List V → St → Prop} {ℓ : Loc} {σ : St} (g : Nat → V) (I : Nat → List V → St → Prop)
    (h0 : I 0 [] σ) (hv : ∀ d acc σ, I d acc σ → srcVer σ v = n)
    (hs : ∀ k acc σ (K : List V → St → Prop), k < N → I k acc σ → (∀ acc' σ', I (k + 1) acc' σ' → K acc' σ') → conds (ℓ.set x (g k)) σ fun b σ' => ifB b (elt (ℓ.set x (g k)) σ' fun y σ'' => K (acc ++ [y]) σ'') (K acc σ'))
    (he : ∀ acc σ, I N acc σ → Q acc σ) : compLoop elt conds v n x ℓ ((List.range N).map g) [] σ Q := by
  refine comp_map (l := List.range N) g (fun d acc σ => I d.length acc σ) h0 (fun d => hv _) ?_ ?_
  · intro d a r acc σ K e i k
    obtain ⟨h1, h2⟩ := range_cut e
    rw [h1]
    exact hs _ acc σ K (h1 ▸ h2) i fun acc' σ' i' => k acc' σ' (by simpa using i')
  · intro acc σ i
    exact he acc σ (by simpa using i)
theorem bodyRows_len : ∀ {i : Int} {l : List Int}, (bodyRows i l).length = 3 * l.length
  | _, [] => rfl
  | i, n :: l => by simp only [bodyRows, List.length_cons, bodyRows_len]; omega
theorem bodyRows_append : ∀ {i : Int} {l m : List Int}, bodyRows i (l ++ m) = bodyRows i l ++ bodyRows (i + l.length) m
  | i, [], m => by simp [bodyRows]
  | i, n :: l, m => by
    simp only [List.cons_append, bodyRows, bodyRows_append, List.length_cons]
    congr 5; omega

section
variable {Γ : Env'} {σ : St} {Q X : V → St → Prop}
theorem sp_finish {b c r ch kn : Nat} {f ar nl : Int} {cs : List Cd} {R : List V} (G : Ok 1 Γ) (hb : σ.get b = some (bbO ar c r ch kn nl)) (hc : σ.get c = some (cdsO cs)) (hr : σ.get r = some (.list R)) (hch : σ.get ch = some (.list []))
    (hcs : ∀ x ∈ cs, CdAt σ f x) (hl : cs.length < 10000) (hR : R.length < 100000) (h1 : r ≠ b) (h2 : r ≠ c) (h3 : r ≠ ch) (h4 : ∀ x ∈ cs, r ≠ x.c ∧ r ≠ x.i)
    (q : ∀ σ', Fr1 r σ σ' → σ'.get r = some (.list (R ++ (bodyRows 0 (cs.map (·.n))).map Rw.v)) → Q (.obj r) σ') : Γ.fn 241 [.obj b] σ Q X := by
  refine G.run fun Γ G => ⟨rfl, ?_⟩
  unfold cdsO at hc
  wtm_at "go"
  try rw [rangeL_map]
  refine for_range (fun (j : Nat) => V.int (0 + (j : Int))) (fun k ℓ σ' => ℓ 0 = some (.obj b) ∧ Fr1 r σ σ' ∧ σ'.get r = some (.list (R ++ (bodyRows 0 ((cs.map (·.n)).take k)).map Rw.v))) ?_ ?_ ?_ ?_
  · exact ⟨rfl, ⟨fun ζ ζ ζ => rfl, fun ζ ζ ζ => rfl⟩, by simp [bodyRows, hr]⟩
  · rintro d ℓ σ' _; rfl
  · rintro k ℓ σ' K hk ⟨h0, ⟨h5, h5'⟩, h6⟩ kk
    obtain ⟨ℓ, rfl⟩ := Has.ex (l := [(0, .obj b)]) ⟨h0, trivial⟩
    have hk : k < cs.length := by simpa using hk
    have hx := hcs cs[k] (List.getElem_mem _)
    obtain ⟨hx1, hx2⟩ := hx
    obtain ⟨hy1, hy2⟩ := h4 cs[k] (List.getElem_mem _)
    have hat : (cs.map fun x : Cd => V.obj x.c)[(0 + (k : Int)).toNat]? = some (.obj cs[k].c) := by
      have : (0 + (k : Int)).toNat = k := by omega
      rw [this, List.getElem?_map, List.getElem?_eq_getElem hk]; rfl
    have hlen : ((bodyRows 0 ((cs.map (·.n)).take k)).map Rw.v).length < 30001 := by
      have := bodyRows_len (i := 0) (l := (cs.map (·.n)).take k)
      simp only [List.length_map, this]
      rw [List.length_take]
      simp only [List.length_map]
      omega
    wtm_at "go"
    try rw [hat]
    wtm_at "go"
    refine kk _ _ ⟨rfl, ⟨fun j hj hne => by wtm_at "st", fun j hj hne => by wtm_at "st"⟩, ?_⟩
    wtm_at "st"
    have e1 : (cs.map (·.n)).take (k + 1) = (cs.map (·.n)).take k ++ [cs[k].n] := by
      rw [List.take_succ_eq_append_getElem (by simpa using hk)]; simp
    have e2 : ((cs.map (·.n)).take k).length = k := by simp; omega
    rw [e1, bodyRows_append, e2]
    simp [bodyRows, Rw.v]
  · rintro ℓ σ' ⟨h0, ⟨h5, h5'⟩, h6⟩
    obtain ⟨ℓ, rfl⟩ := Has.ex (l := [(0, .obj b)]) ⟨h0, trivial⟩
    wtm_at "go"
    refine q _ ⟨h5, h5'⟩ ?_
    rw [h6]
    have e1 : ((cs.map fun x : Cd => V.obj x.c).length - 0 : Int).toNat = cs.length := by simp
    rw [e1, List.take_of_length_le (by simp)]
end
end
section
section
variable {Γ : Env'} {σ : St} {Q X : V → St → Prop}
noncomputable def symO : O := .inst 0 [(0,.obj 4),(1,.obj 5),(2,.obj 6),(3,.obj 7)]
theorem sp_arity {f ar : Int} {a : V} {fu : List V} (G : Ok 1 Γ) (h3 : σ.get 3 = some symO) (h6 : σ.get 6 = some (.list fu)) (hf : 0 ≤ f ∧ f < 1000) (hg : fu[f.toNat]? = some (.tup [a, .int ar])) (q : Q (.int ar) σ) :
    Γ.fn 104 [.obj 3, .int f] σ Q X := by
  refine G.run fun Γ G => ⟨rfl, ?_⟩
  unfold symO at h3
  wtm_at "go"
  try rw [hg]
  wtm_at "go"
  exact q
theorem sp_chain {c : Nat} {f ar : Int} {a : V} {fu : List V} {cs : List Cd} (G : Ok 3 Γ) (h3 : σ.get 3 = some symO) (h6 : σ.get 6 = some (.list fu)) (hf : 0 ≤ f ∧ f < 1000) (hg : fu[f.toNat]? = some (.tup [a, .int ar]))
    (hc : σ.get c = some (cdsO cs)) (hcs : ∀ x ∈ cs, CdAt σ f x) (hl : cs.length < 5000) (hl2 : 2 ≤ cs.length) (q : ∀ σ' o, Fr σ σ' → σ'.get o = some (.list ((blockOf ar (cs.map (·.n))).map Rw.v)) → Q (.obj o) σ') :
    Γ.fn 9 [.obj 3, .int f, .obj c] σ Q X := by
  refine G.run fun Γ G => ⟨rfl, ?_⟩
  unfold cdsO at hc
  have hcl : (cs.map fun x : Cd => V.obj x.c).length = cs.length := List.length_map _
  wtm_at "go"
  refine sp_arity (G.le (by omega)) h3 h6 hf hg ?_
  refine sp_bb (G.le (by omega)) (cs := cs) (by wtm_at "st") (by wtm_at "st" <;> rfl) (by simp only [big]; omega) (by wtm_at "st") fun σ₁ r ch kn nl F₁ hb₁ hr₁ hch₁ hne₁ hne₂ hne₃ hle₁ hle₂ => ?_
  obtain ⟨f1, f1'⟩ := F₁
  wtm_at "go"
  try rw [hcl, rangeL_idx]
  refine sp_rows (G.le (by omega)) (n := cs.length) (by wtm_at "st" <;> rfl) (by wtm_at "st") hl2 (by omega) fun σ₂ o F₂ hle₃ ho => ?_
  obtain ⟨f2, f2'⟩ := F₂
  have hro : r ≠ o := by
    have := St.get_lt hr₁
    rw [St.len_add] at hle₃; omega
  have hso : σ.len ≠ o := by
    have := St.get_lt hb₁
    rw [St.len_add] at hle₃; omega
  have hfr : ∀ j, (σ.get j).isSome = true → r ≠ j := fun j hj => by
    have := St.get_lt' hj
    rw [St.len_add] at hle₁; omega
  have hlt : (tryRows cs.length ar).length = cs.length := by simp [tryRows]; omega
  have hcx : ∀ x ∈ cs, CdAt σ₂ f x := fun x hx => ⟨by have := (hcs x hx).c; wtm_at "st", by have := (hcs x hx).i; wtm_at "st"⟩
  have hne₁' := Ne.symm hne₁
  have hne₂' := Ne.symm hne₂
  have hne₃' := Ne.symm hne₃
  generalize hT : tryRows cs.length ar = T at ho hlt
  wtm_at "go"
  refine for_map (l := T) Rw.v (fun d ℓ σ' => ℓ 3 = some (.obj σ.len) ∧ Fr1 r σ₂ σ' ∧ σ'.get r = some (.list (d.map Rw.v))) ?_ ?_ ?_ ?_
  · exact ⟨rfl, ⟨fun ζ ζ ζ => rfl, fun ζ ζ ζ => rfl⟩, by wtm_at "st" <;> rfl⟩
  · rintro d ℓ σ' ⟨_, ⟨f3, f3'⟩, _⟩
    simp only [srcVer]
    wtm_at "st"
  · rintro d a' r' ℓ σ' K e ⟨h0, ⟨f3, f3'⟩, h7⟩ k
    obtain ⟨ℓ, rfl⟩ := Has.ex (l := [(3, .obj σ.len)]) ⟨h0, trivial⟩
    have hd : d.length < 5000 := by
      have := congrArg List.length e
      simp [hlt] at this; omega
    wtm_at "go"
    refine k _ _ ⟨rfl, ⟨fun j hj hne => by wtm_at "st", fun j hj hne => by wtm_at "st"⟩, ?_⟩
    wtm_at "st"
    simp
  · rintro ℓ σ' ⟨h0, ⟨f3, f3'⟩, h7⟩
    obtain ⟨ℓ, rfl⟩ := Has.ex (l := [(3, .obj σ.len)]) ⟨h0, trivial⟩
    wtm_at "go"
    refine sp_finish (G.le (by omega)) (f := f) (cs := cs) (by wtm_at "st" <;> rfl) (by wtm_at "st" <;> rfl) h7 (by wtm_at "st") ?_ (by omega) (by rw [List.length_map, hlt]; omega) (Ne.symm hne₁) ?_ hne₃ ?_ fun σ₃ F₃ h8 => ?_
    · intro x hx
      have h9 := hcs x hx
      obtain ⟨h10, h11⟩ := h9
      exact ⟨by wtm_at "st", by wtm_at "st"⟩
    · exact hfr c (by wtm_at "st")
    · intro x hx
      obtain ⟨h10, h11⟩ := hcs x hx
      exact ⟨hfr _ (by wtm_at "st"), hfr _ (by wtm_at "st")⟩
    · obtain ⟨f4, f4'⟩ := F₃
      refine q _ _ ⟨fun j hj => ?_, fun j hj => ?_⟩ ?_
      · have := hfr j hj; wtm_at "st"
      · have := hfr j hj; wtm_at "st"
      · rw [h8]
        congr 2
        rw [← List.map_append]
        congr 1
        rw [← hT]
        match cs, hl2 with
        | x :: y :: cs, _ => simp [blockOf]
end
end
section
/- the rows that a procedure's code becomes at an address -/
noncomputable def codeR (ar : Int) : List Int → Int → List Rw
  | [], _ => [.fail]
  | [n], _ => [.pc n, .pr]
  | n :: m :: l, e => (.tr (e + (l.length + 2)) ar :: (List.range l.length).map fun (i : Nat) => Rw.re (e + (l.length + 2) + 2 * (1 + (i : Int)))) ++ [.tu (e + (l.length + 2) + 2 * (l.length + 1))] ++ (n :: m :: l).flatMap fun k => [.pc k, .pr]

theorem labL_try {n : Nat} {ar : Int} : labL (tryRows n ar) = [] := by
  have : ∀ l : List Nat, labL (l.map fun (i : Nat) => Rw.re (1 + (i : Int))) = [] := fun l => by induction l with | nil => rfl | cons a l ih => simpa [labL] using ih
  simp [tryRows, labL, labL_append, this]
theorem labsOf_try {n : Nat} {ar e : Int} : labsOf (tryRows n ar) e = [] := by
  have : ∀ (l : List Nat) (e : Int), labsOf (l.map fun (i : Nat) => Rw.re (1 + (i : Int))) e = [] := fun l => by induction l with | nil => intro _; rfl | cons a l ih => intro e; simpa [labsOf] using ih _
  simp [tryRows, labsOf, labsOf_append, this]
theorem cnt_try {n : Nat} {ar : Int} (h : 2 ≤ n) : cnt (tryRows n ar) = n := by
  have : ∀ l : List Nat, cnt (l.map fun (i : Nat) => Rw.re (1 + (i : Int))) = l.length := fun l => by induction l with | nil => rfl | cons a l ih => simp [cnt, ih]
  simp [tryRows, cnt, cnt_append, this]
  omega
theorem labL_body : ∀ {l : List Int} {i x : Int}, x ∈ labL (bodyRows i l) → i ≤ x
  | [], _, _, h => by cases h
  | n :: l, i, x, h => by
    simp only [bodyRows, labL, List.mem_cons] at h
    rcases h with rfl | h
    · exact Int.le_refl _
    · have := labL_body h; omega
theorem labL_nodup : ∀ {l : List Int} {i : Int}, (labL (bodyRows i l)).Nodup
  | [], _ => List.nodup_nil
  | n :: l, i => by
    simp only [bodyRows, labL, List.nodup_cons]
    exact ⟨fun h => by have := labL_body h; omega, labL_nodup⟩
theorem dget_body : ∀ {l : List Int} {i a : Int} {k : Nat}, k < l.length → dget (.int (i + k)) (labsOf (bodyRows i l) a) = some (.int (a + 2 * k))
  | [], _, _, _, h => by cases h
  | n :: l, i, a, 0, _ => by
    show (if eqKey (.int i) (.int (i + (0 : Nat))) then _ else _) = _
    rw [if_pos (by simp [eqKey])]
    simp
  | n :: l, i, a, k + 1, h => by
    show (if eqKey (.int i) (.int (i + (k + 1 : Nat))) then _ else _) = _
    rw [if_neg (by simp [eqKey]; omega)]
    have := dget_body (l := l) (i := i + 1) (a := a + 1 + 1) (k := k) (by simpa using h)
    rw [show i + ((k + 1 : Nat) : Int) = i + 1 + k by omega]
    show dget _ (labsOf (bodyRows (i + 1) l) (a + 1 + 1)) = _
    rw [this]
    congr 2; omega
theorem filter_try {n : Nat} {ar : Int} : (tryRows n ar).filter Rw.row = tryRows n ar := by
  rw [List.filter_eq_self]
  intro r hr
  simp only [tryRows, List.mem_append, List.mem_cons, List.mem_map, List.not_mem_nil, or_false] at hr
  rcases hr with (rfl | ⟨_, _, rfl⟩) | rfl <;> rfl
theorem filter_body : ∀ {l : List Int} {i : Int}, (bodyRows i l).filter Rw.row = l.flatMap fun k => [.pc k, .pr]
  | [], _ => rfl
  | n :: l, i => by
    simp only [bodyRows, List.filter, Rw.row, Rw.isLab, Bool.not_true, Bool.not_false, filter_body, List.flatMap_cons]
    rfl
theorem map_res_body {f : Int → Int} : ∀ {l : List Int}, (l.flatMap fun k => [Rw.pc k, .pr]).map (Rw.res f) = l.flatMap fun k => [.pc k, .pr]
  | [] => rfl
  | n :: l => by simp [List.flatMap_cons, map_res_body, Rw.res]
theorem flat_len : ∀ {l : List Int}, (l.flatMap fun k => [Rw.pc k, .pr]).length = 2 * l.length
  | [] => rfl
  | n :: l => by simp only [List.flatMap_cons, List.length_append, flat_len, List.length_cons, List.length_nil]; omega
theorem block_eq {n m : Int} {l : List Int} {ar : Int} : blockOf ar (n :: m :: l) = tryRows (l.length + 2) ar ++ bodyRows 0 (n :: m :: l) := rfl

structure BlockOk (ar : Int) (ns : List Int) (e : Int) : Prop where
  nd : (labL (blockOf ar ns)).Nodup
  pos : ∀ l ∈ labL (blockOf ar ns), 0 ≤ l
  fit : ∀ r ∈ blockOf ar ns, r.isLab = false → r.fits
  lb : ∀ r ∈ blockOf ar ns, ∀ l, r.lbl = some l → 0 ≤ l ∧ dget (.int l) (labsOf (blockOf ar ns) e) = some (.int (labAt (blockOf ar ns) e l)) ∧ labAt (blockOf ar ns) e l < e + ((blockOf ar ns).filter Rw.row).length
  rows : ((blockOf ar ns).filter Rw.row).map (Rw.res (labAt (blockOf ar ns) e)) = codeR ar ns e
  len : (blockOf ar ns).length ≤ 4 * ns.length + 1
theorem block_ok {ar : Int} (ha : 0 ≤ ar) (e : Int) : ∀ (ns : List Int), BlockOk ar ns e
  | [] => by
    refine ⟨List.nodup_nil, fun ζ h => (by cases h), fun r h ζ => ?_, fun r h l hl => ?_, rfl, by simp [blockOf]⟩
    · simp only [blockOf, List.mem_singleton] at h; subst h; trivial
    · simp only [blockOf, List.mem_singleton] at h; subst h; cases hl
  | [n] => by
    refine ⟨List.nodup_nil, fun ζ h => (by cases h), fun r h ζ => ?_, fun r h l hl => ?_, rfl, by simp [blockOf]⟩
    · simp only [blockOf, List.mem_cons, List.not_mem_nil, or_false] at h; rcases h with rfl | rfl <;> trivial
    · simp only [blockOf, List.mem_cons, List.not_mem_nil, or_false] at h; rcases h with rfl | rfl <;> cases hl
  | n :: m :: l => by
    have hL : labL (blockOf ar (n :: m :: l)) = labL (bodyRows 0 (n :: m :: l)) := by rw [block_eq, labL_append, labL_try]; rfl
    have hA : labsOf (blockOf ar (n :: m :: l)) e = labsOf (bodyRows 0 (n :: m :: l)) (e + (l.length + 2 : Nat)) := by
      rw [block_eq, labsOf_append, labsOf_try, cnt_try (by omega)]; rfl
    have hD : ∀ k : Nat, k < l.length + 2 → dget (.int k) (labsOf (blockOf ar (n :: m :: l)) e) = some (.int (e + (l.length + 2 : Nat) + 2 * k)) := fun k hk => by
      have := dget_body (l := n :: m :: l) (i := 0) (a := e + (l.length + 2 : Nat)) (k := k) (by simpa using hk)
      rw [hA, ← this, Int.zero_add]
    have hAt : ∀ k : Nat, k < l.length + 2 → labAt (blockOf ar (n :: m :: l)) e k = e + (l.length + 2 : Nat) + 2 * k := fun k hk => by
      unfold labAt; rw [hD k hk]
    have hlen : ((blockOf ar (n :: m :: l)).filter Rw.row).length = 3 * (l.length + 2) := by
      rw [block_eq, List.filter_append, filter_try, filter_body, List.length_append, flat_len]
      simp [tryRows]; omega
    refine ⟨by rw [hL]; exact labL_nodup, fun x h => by rw [hL] at h; exact labL_body h, fun r hr h => ?_, fun r hr x hx => ?_, ?_, ?_⟩
    · rw [block_eq, List.mem_append] at hr
      rcases hr with hr | hr
      · simp only [tryRows, List.mem_append, List.mem_cons, List.mem_map, List.not_mem_nil, or_false] at hr
        rcases hr with (rfl | ⟨i, _, rfl⟩) | rfl
        · exact ⟨by omega, ha⟩
        · show -1 ≤ _; omega
        · show -1 ≤ _; omega
      · have : r ∈ (bodyRows 0 (n :: m :: l)).filter Rw.row := List.mem_filter.mpr ⟨hr, by simp [Rw.row, h]⟩
        rw [filter_body] at this
        simp only [List.mem_flatMap, List.mem_cons, List.not_mem_nil, or_false] at this
        obtain ⟨_, _, rfl | rfl⟩ := this <;> trivial
    · have hk : ∃ k : Nat, x = k ∧ k < l.length + 2 := by
        rw [block_eq, List.mem_append] at hr
        rcases hr with hr | hr
        · simp only [tryRows, List.mem_append, List.mem_cons, List.mem_map, List.not_mem_nil, or_false, List.mem_range] at hr
          rcases hr with (rfl | ⟨i, hi, rfl⟩) | rfl
          · cases hx; exact ⟨0, rfl, by omega⟩
          · cases hx; exact ⟨1 + i, by omega, by omega⟩
          · cases hx; exact ⟨l.length + 1, by omega, by omega⟩
        · cases hr' : r.isLab with
          | true => cases r <;> cases hr'; cases hx
          | false =>
            have : r ∈ (bodyRows 0 (n :: m :: l)).filter Rw.row := List.mem_filter.mpr ⟨hr, by simp [Rw.row, hr']⟩
            rw [filter_body] at this
            simp only [List.mem_flatMap, List.mem_cons, List.not_mem_nil, or_false] at this
            obtain ⟨_, _, rfl | rfl⟩ := this <;> cases hx
      obtain ⟨k, rfl, hk⟩ := hk
      rw [hAt k hk, hlen]
      exact ⟨by omega, hD k hk, by omega⟩
    · have h0 := hAt 0 (by omega)
      have h1 := hAt (l.length + 1) (by omega)
      have e0 : (l.length + 2 : Nat) - 2 = l.length := by omega
      have hmid : ((List.range l.length).map fun (i : Nat) => Rw.re (1 + (i : Int))).map (Rw.res (labAt (blockOf ar (n :: m :: l)) e)) = (List.range l.length).map fun (i : Nat) => Rw.re (e + (l.length + 2) + 2 * (1 + (i : Int))) := by
        rw [List.map_map]
        apply List.map_congr_left
        intro i hi
        have := hAt (1 + i) (by have := List.mem_range.mp hi; omega)
        show Rw.re (labAt _ _ _) = _
        rw [show (1 + (i : Int)) = ((1 + i : Nat) : Int) by omega, this]
        congr 1
      conv => lhs; arg 2; rw [block_eq, List.filter_append, filter_try, filter_body]
      rw [List.map_append, map_res_body]
      unfold tryRows codeR
      rw [e0, List.map_append, List.map_cons, hmid]
      have a1 : Rw.res (labAt (blockOf ar (n :: m :: l)) e) (.tr 0 ar) = .tr (e + (l.length + 2)) ar := by
        show Rw.tr (labAt _ _ _) _ = _
        rw [show (0 : Int) = ((0 : Nat) : Int) from rfl, h0]; congr 1; omega
      have a2 : Rw.res (labAt (blockOf ar (n :: m :: l)) e) (.tu (((l.length + 2 : Nat) : Int) - 1)) = .tu (e + (l.length + 2) + 2 * (l.length + 1)) := by
        show Rw.tu (labAt _ _ _) = _
        rw [show (((l.length + 2 : Nat) : Int) - 1) = ((l.length + 1 : Nat) : Int) by omega, h1]; congr 1
      rw [a1]
      simp only [List.map_cons, List.map_nil, a2]
    · rw [block_eq, List.length_append, bodyRows_len]
      simp [tryRows]; omega
end
section
noncomputable def areaO (w : Nat) : O := .inst 4 [(19, .obj 10), (20, .int 0), (21, .int 0), (22, .obj 3), (23, .obj 8), (24, .obj 11), (25, .obj 12), (26, .obj 13), (27, .obj w)]
noncomputable def procO (f : Int) (kind : Str) (entry : Int) (c t : Nat) (lib hel pend : Bool) : O :=
  .inst 2 [(10, .int f), (11, .str kind), (12, .int entry), (5, .obj c), (13, .obj t), (14, .int (-1)), (15, .int (-1)), (16, .bool lib), (17, .bool hel), (18, .bool pend)]
section
variable {Γ : Env'} {σ : St} {Q X : V → St → Prop}
theorem sp_index {c : Nat} {f ar : Int} {a : V} {fu : List V} {cs : List Cd} (G : Ok 4 Γ) (h3 : σ.get 3 = some symO) (h6 : σ.get 6 = some (.list fu)) (hf : 0 ≤ f ∧ f < 1000) (hg : fu[f.toNat]? = some (.tup [a, .int ar]))
    (hc : σ.get c = some (cdsO cs)) (hcs : ∀ x ∈ cs, CdAt σ f x) (hl : cs.length < 5000) (q : ∀ σ' o, Fr σ σ' → σ'.get o = some (.list ((blockOf ar (cs.map (·.n))).map Rw.v)) → Q (.obj o) σ') :
    Γ.fn 10 [.obj 3, .int f, .obj c] σ Q X := by
  refine G.run fun Γ G => ⟨rfl, ?_⟩
  have hcl : (cs.map fun x : Cd => V.obj x.c).length = cs.length := List.length_map _
  have hc' := hc
  unfold cdsO at hc'
  rcases Nat.lt_or_ge cs.length 2 with h | h
  · skip
    wtm_at "gw"
    match cs, hc, hcs, h, q with
    | [], hc, _, _, q => exact sp_small0 (G.le (by omega)) hc q
    | [x], hc, hcs, _, q => exact sp_small1 (ar := ar) (G.le (by omega)) hc (hcs x (.head _)) q
  · skip
    wtm_at "go"
    refine sp_arity (G.le (by omega)) h3 h6 hf hg ?_
    wtm_at "w"
    cases hh : decide (ar = 0) with
    | true =>
      exact sp_chain (G.le (by omega)) h3 h6 hf hg hc hcs hl h q
    | false =>
      refine sp_allvar (G.le (by omega)) hc (by simp only [big]; omega) hcs ?_
      exact sp_chain (G.le (by omega)) h3 h6 hf hg hc hcs hl h q

theorem sp_link {b w : Nat} {ar : Int} {ns : List Int} {C : List V} (G : Ok 7 Γ) (h9 : σ.get 9 = some (areaO w)) (h11 : σ.get 11 = some (.list C)) (h12 : σ.get 12 = some (.dict SH)) (hb : σ.get b = some (.list ((blockOf ar ns).map Rw.v)))
    (ha : 0 ≤ ar) (hC : C.length < 100000) (hn : ns.length < 5000)
    (q : ∀ σ', Fr1 11 σ σ' → σ'.get 11 = some (.list (C ++ (codeR ar ns C.length).map Rw.v)) → Q (.int C.length) σ') : Γ.fn 544 [.obj 9, .obj b] σ Q X := by
  refine G.run fun Γ G => ⟨rfl, ?_⟩
  unfold areaO at h9
  have B := block_ok ha C.length ns
  have hbl := B.len
  wtm_at "go"
  refine sp_assemble (G.le (by omega)) h12 hb (by simp only [big]; omega) B.nd B.pos B.fit B.lb fun σ₁ o F₁ ho ho2 => ?_
  obtain ⟨f1, f1'⟩ := F₁
  have e1 : ((blockOf ar ns).filter Rw.row).map (fun r => (r.res (labAt (blockOf ar ns) C.length)).v) = (codeR ar ns C.length).map Rw.v := by
    rw [← B.rows, List.map_map]; rfl
  rw [e1] at ho2
  have hlr : (codeR ar ns C.length).length ≤ 4 * ns.length + 1 := by
    rw [← B.rows, List.length_map]
    exact Nat.le_trans (List.length_filter_le ..) hbl
  have hne : 11 ≠ o := by have := St.get_lt h11; omega
  generalize codeR ar ns C.length = T at ho2 hlr q
  wtm_at "go"
  refine for_map (l := T) Rw.v (fun d ℓ σ' => Has ℓ [(0, .obj 9), (2, .int C.length)] ∧ Fr1 11 σ₁ σ' ∧ σ'.get 11 = some (.list (C ++ d.map Rw.v))) ?_ ?_ ?_ ?_
  · exact ⟨⟨rfl, rfl, trivial⟩, ⟨fun ζ ζ ζ => rfl, fun ζ ζ ζ => rfl⟩, by wtm_at "st"; simp⟩
  · rintro d ℓ σ' ⟨_, ⟨f3, f3'⟩, _⟩
    simp only [srcVer]
    wtm_at "st"
  · rintro d a' r' ℓ σ' K e ⟨h0, ⟨f3, f3'⟩, h7⟩ k
    obtain ⟨ℓ, rfl⟩ := h0.ex
    have hd : d.length < 30000 := by
      have := congrArg List.length e
      simp at this; omega
    wtm_at "go"
    refine k _ _ ⟨⟨rfl, rfl, trivial⟩, ⟨fun j hj hne => by wtm_at "st", fun j hj hne => by wtm_at "st"⟩, ?_⟩
    wtm_at "st"
    simp
  · rintro ℓ σ' ⟨h0, ⟨f3, f3'⟩, h7⟩
    obtain ⟨ℓ, rfl⟩ := h0.ex
    exact q _ ⟨fun j hj hne => by wtm_at "st", fun j hj hne => by wtm_at "st"⟩ h7
theorem sp_linkp {P w c t : Nat} {f ar entry : Int} {kind : Str} {lib hel pend : Bool} {a : V} {fu : List V} {cs : List Cd} {C : List V} (G : Ok 8 Γ) (h9 : σ.get 9 = some (areaO w)) (h11 : σ.get 11 = some (.list C)) (h12 : σ.get 12 = some (.dict SH))
    (h3 : σ.get 3 = some symO) (h6 : σ.get 6 = some (.list fu)) (hf : 0 ≤ f ∧ f < 1000) (hg : fu[f.toNat]? = some (.tup [a, .int ar])) (ha : 0 ≤ ar)
    (hP : σ.get P = some (procO f kind entry c t lib hel pend)) (hc : σ.get c = some (cdsO cs)) (hcs : ∀ x ∈ cs, CdAt σ f x) (hl : cs.length < 5000) (hC : C.length < 100000) (hne : 11 ≠ P)
    (q : ∀ σ', Fr2 11 P σ σ' → σ'.get 11 = some (.list (C ++ (codeR ar (cs.map (·.n)) C.length).map Rw.v)) → σ'.get P = some (procO f kind C.length c t lib hel false) → Q .none σ') : Γ.fn 545 [.obj 9, .obj P] σ Q X := by
  refine G.run fun Γ G => ⟨rfl, ?_⟩
  have h9' := h9
  have hP' := hP
  have hne' := Ne.symm hne
  unfold areaO at h9'
  unfold procO at hP'
  wtm_at "go"
  refine sp_index (G.le (by omega)) h3 h6 hf hg hc hcs hl fun σ₁ o F₁ ho => ?_
  obtain ⟨f1, f1'⟩ := F₁
  refine sp_link (G.le (by omega)) (w := w) (by wtm_at "st") (by wtm_at "st") (by wtm_at "st") ho ha hC (by simpa using hl) fun σ₂ F₂ h11' => ?_
  obtain ⟨f2, f2'⟩ := F₂

  wtm_at "go"
  refine q _ ⟨fun j hj ζ ζ => by wtm_at "st", fun j hj ζ ζ => by wtm_at "st"⟩ (by wtm_at "st") (by wtm_at "st" <;> rfl)
end
end
section
/- the hand that the law picks with -/
structure HandAt (σ : St) (cells : List Int) : Prop where
  cl : σ.get 1 = some (.list (toInts cells))
  hand : ∃ pos rem seed : Int, σ.get 2 = some (.list [.obj 1, .int pos, .int rem, .int seed]) ∧ 0 ≤ pos ∧ pos ≤ cells.length ∧ 0 ≤ rem ∧ 0 ≤ seed ∧ seed < 2 ^ 40
theorem fmod_bd {a b : Int} (h : 0 < b) : 0 ≤ a.fmod b ∧ a.fmod b < b := ⟨Int.fmod_nonneg_of_pos a h, Int.fmod_lt_of_pos a h⟩
theorem fdiv_nn {a b : Int} (h : 0 < b) (ha : 0 ≤ a) : 0 ≤ a.fdiv b := Int.fdiv_nonneg ha (Int.le_of_lt h)
theorem toInts_get {l : List Int} {k : Int} (h : 0 ≤ k) (h2 : k < l.length) : ∃ x, (toInts l)[k.toNat]? = some (.int x) := by
  have : k.toNat < l.length := by omega
  exact ⟨l[k.toNat], by unfold toInts; rw [List.getElem?_map, List.getElem?_eq_getElem this]; rfl⟩
section
variable {Γ : Env'} {σ : St} {Q X : V → St → Prop}
theorem hand_new {σ' : St} {cells : List Int} {pos rem seed : Int} {l : List V} (F : Fr1 2 σ σ') (h : σ.get 1 = some (.list (toInts cells))) (g : σ'.get 2 = some (.list l)) (e : l = [.obj 1, .int pos, .int rem, .int seed]) (h1 : 0 ≤ pos) (h2 : pos ≤ cells.length) (h3 : 0 ≤ rem) (h4 : 0 ≤ seed) (h5 : seed < 2 ^ 40) :
    HandAt σ' cells := ⟨by rw [F.g 1 (by rw [h]; rfl) (by decide), h], pos, rem, seed, by rw [g, e], h1, h2, h3, h4, h5⟩
theorem sp_pick {lim : Int} {cells : List Int} (G : Ok 1 Γ) (H : HandAt σ cells) (hc : cells.length < 100) (h1 : 0 < lim) (h2 : lim < 100)
    (q : ∀ σ' r, Fr1 2 σ σ' → HandAt σ' cells → 0 ≤ r → r < lim → Q (.int r) σ') : Γ.fn 29 [.obj 2, .int lim] σ Q X := by
  refine G.run fun Γ G => ⟨rfl, ?_⟩
  obtain ⟨hc1, pos, rem, seed, hh, b1, b2, b3, b4, b5⟩ := H
  have hlen : (toInts cells).length = cells.length := by simp [toInts]
  have hfr : ∀ l l' l'' : List V, Fr1 2 σ (((σ.put 2 (.list l)).put 2 (.list l')).put 2 (.list l'')) := fun ζ ζ ζ => ⟨fun j hj hne => by wtm_at "st", fun j hj hne => by wtm_at "st"⟩
  have hfr1 : ∀ l : List V, Fr1 2 σ (σ.put 2 (.list l)) := fun ζ => ⟨fun j hj hne => by wtm_at "st", fun j hj hne => by wtm_at "st"⟩
  wtm_at "gw"
  cases hr : decide (rem = 0) with
  | true =>
    have hr := of_decide_eq_true hr
    wtm_at "gw"
    try rw [hlen]
    cases hp : decide (pos = cells.length) with
    | true =>
      wtm_at "go"
      have h7 := fmod_bd (a := seed * 48271) (b := 2147483647) (by decide)
      have h8 := fmod_bd (a := ((seed * 48271).fmod 2147483647).fdiv 7) h1
      refine q _ _ (hfr1 _) (hand_new (hfr1 _) hc1 (by wtm_at "st" <;> rfl) (pos := pos) (rem := 0) (seed := (seed * 48271).fmod 2147483647) rfl b1 b2 (Int.le_refl _) h7.1 (by omega)) h8.1 h8.2
    | false =>
      have hp := of_decide_eq_false hp
      obtain ⟨x, hx⟩ := toInts_get b1 (show pos < cells.length by omega)
      wtm_at "go"
      try rw [hx]
      wtm_at "go"
      rcases Int.lt_or_le x 0 with hx0 | hx0
      · wtm_at "go"
        have h8 := fmod_bd (a := -x) h1
        have h9 := fdiv_nn (a := -x) h1 (by omega)
        refine q _ _ (hfr _ _ _) (hand_new (hfr _ _ _) hc1 (by wtm_at "st" <;> rfl) (pos := pos + 1) (rem := (-x).fdiv lim) (seed := seed) rfl (by omega) (by omega) h9 b4 b5) h8.1 h8.2
      · wtm_at "go"
        have h8 := fmod_bd (a := x) h1
        have h9 := fdiv_nn (a := x) h1 (by omega)
        refine q _ _ (hfr _ _ _) (hand_new (hfr _ _ _) hc1 (by wtm_at "st" <;> rfl) (pos := pos + 1) (rem := x.fdiv lim) (seed := seed) rfl (by omega) (by omega) h9 b4 b5) h8.1 h8.2
  | false =>
    have hr := of_decide_eq_false hr
    wtm_at "go"
    have h8 := fmod_bd (a := rem) h1
    have h9 := fdiv_nn (a := rem) h1 b3
    refine q _ _ (hfr1 _) (hand_new (hfr1 _) hc1 (by wtm_at "st" <;> rfl) (pos := pos) (rem := rem.fdiv lim) (seed := seed) rfl b1 b2 h9 b4 b5) h8.1 h8.2
end
end
section
theorem while_up {test : Loc → St → (V → St → Prop) → Prop} {body : Loc → St → (Fl → Loc → St → Prop) → Prop} {Q : Fl → Loc → St → Prop} (I : Nat → Loc → St → Prop) (N : Nat)
    (hs : ∀ k ℓ σ (K : Loc → St → Prop), k < N → I k ℓ σ → (∀ ℓ' σ', I (k + 1) ℓ' σ' → K ℓ' σ') → test ℓ σ fun v σ => boolV v fun b => ifB b (body ℓ σ fun fl ℓ' σ' => onFl fl (K ℓ' σ') fun r => Q (.ret r) ℓ' σ') (Q .next ℓ σ))
    (he : ∀ ℓ σ, I N ℓ σ → test ℓ σ fun v σ => boolV v fun b => ifB b (body ℓ σ fun fl ℓ' σ' => onFl fl False fun r => Q (.ret r) ℓ' σ') (Q .next ℓ σ)) {ℓ : Loc} {σ : St} (h0 : I 0 ℓ σ) : whileLoop test body (N + 1) ℓ σ Q := by
  suffices h : ∀ (j k : Nat) (ℓ : Loc) (σ : St), j + k = N → I k ℓ σ → whileLoop test body (j + 1) ℓ σ Q from h N 0 ℓ σ rfl h0
  intro j
  induction j with
  | zero =>
    intro k ℓ σ e i
    have : k = N := by omega
    subst this
    exact he ℓ σ i
  | succ j ih =>
    intro k ℓ σ e i
    exact hs k ℓ σ _ (by omega) i fun ℓ' σ' i' => ih (k + 1) ℓ' σ' (by omega) i'

/- the rows of a procedure stand in the code -/
noncomputable def Led (C : List V) (e : Nat) (ar : Int) (ns : List Int) : Prop := ∃ A B, A.length = e ∧ C = A ++ ((codeR ar ns e).map Rw.v ++ B)
theorem Led.at {C : List V} {e : Nat} {ar : Int} {ns : List Int} (h : Led C e ar ns) {k : Nat} {r : Rw} {j : Int} (g : (codeR ar ns e)[k]? = some r) (ej : j = (e : Int) + k) : C[j.toNat]? = some r.v := by
  obtain ⟨A, B, h1, h2⟩ := h
  have hk : k < (codeR ar ns e).length := (List.getElem?_eq_some_iff.mp g).1
  have : j.toNat = A.length + k := by omega
  rw [h2, this, List.getElem?_append_right (by omega), Nat.add_sub_cancel_left, List.getElem?_append_left (by simpa using hk), List.getElem?_map, g]
  rfl
theorem Led.more {C D : List V} {e : Nat} {ar : Int} {ns : List Int} (h : Led C e ar ns) : Led (C ++ D) e ar ns := by
  obtain ⟨A, B, h1, h2⟩ := h
  exact ⟨A, B ++ D, h1, by rw [h2]; simp⟩
theorem flat_get : ∀ {l : List Int} {k : Nat} (h : k < l.length), (l.flatMap fun k => [Rw.pc k, .pr])[2 * k]? = some (.pc l[k]) ∧ (l.flatMap fun k => [Rw.pc k, .pr])[2 * k + 1]? = some .pr
  | [], k, h => by cases h
  | n :: l, 0, _ => by simp [List.flatMap_cons]
  | n :: l, k + 1, h => by
    obtain ⟨a, b⟩ := flat_get (l := l) (k := k) (by simpa using h)
    rw [List.flatMap_cons, show 2 * (k + 1) = 2 * k + 1 + 1 by omega]
    exact ⟨a, b⟩
section
variable {n m : Int} {l : List Int} {ar e : Int}
theorem codeR_hd : ((Rw.tr (e + (l.length + 2)) ar :: (List.range l.length).map fun (i : Nat) => Rw.re (e + (l.length + 2) + 2 * (1 + (i : Int)))) ++ [Rw.tu (e + (l.length + 2) + 2 * (l.length + 1))]).length = l.length + 2 := by simp
theorem codeR_try : (codeR ar (n :: m :: l) e)[0]? = some (.tr (e + (l.length + 2)) ar) := rfl
theorem codeR_retry {i : Nat} (h : i < l.length) : (codeR ar (n :: m :: l) e)[i + 1]? = some (.re (e + (l.length + 2) + 2 * (1 + (i : Int)))) := by
  unfold codeR
  rw [List.getElem?_append_left (by rw [codeR_hd]; omega), List.getElem?_append_left (by simp; omega), List.getElem?_cons_succ, List.getElem?_map, List.getElem?_range h]
  rfl
theorem codeR_trust : (codeR ar (n :: m :: l) e)[l.length + 1]? = some (.tu (e + (l.length + 2) + 2 * (l.length + 1))) := by
  unfold codeR
  rw [List.getElem?_append_left (by rw [codeR_hd]; omega), List.getElem?_append_right (by simp)]
  simp
theorem codeR_pc {k : Nat} (h : k < (n :: m :: l).length) : (codeR ar (n :: m :: l) e)[l.length + 2 + 2 * k]? = some (.pc (n :: m :: l)[k]) := by
  unfold codeR
  rw [List.getElem?_append_right (by rw [codeR_hd]; omega), codeR_hd, Nat.add_sub_cancel_left]
  exact (flat_get h).1
theorem codeR_pr {k : Nat} (h : k < (n :: m :: l).length) : (codeR ar (n :: m :: l) e)[l.length + 2 + 2 * k + 1]? = some .pr := by
  unfold codeR
  rw [List.getElem?_append_right (by rw [codeR_hd]; omega), codeR_hd, Nat.add_assoc, Nat.add_sub_cancel_left]
  exact (flat_get h).2
end
section
variable {Γ : Env'} {σ : St} {Q X : V → St → Prop}
theorem sp_led {e : Nat} {ar : Int} {ns : List Int} {C : List V} (G : Ok 1 Γ) (h11 : σ.get 11 = some (.list C)) (H : Led C e ar ns) (he : e < 100000) (hn : ns.length < 1000)
    (q : ∀ σ' o, Fr σ σ' → σ.len ≤ o → σ'.get o = some (.list (toInts ns)) → Q (.obj o) σ') : Γ.fn 30 [.obj 11, .int e, .int ar] σ Q X := by
  refine G.run fun Γ G => ⟨rfl, ?_⟩
  match ns, H, hn, q with
  | [], H, _, q =>
    have h0 : C[(e : Int).toNat]? = some Rw.fail.v := H.at (k := 0) rfl (by omega)
    wtm_at "go"
    try rw [h0]
    wtm_at "go"
    refine q _ _ ⟨fun j hj => by wtm_at "st", fun j hj => by wtm_at "st"⟩ ?_ (by wtm_at "st" <;> rfl)
    simp only [St.len_add]; omega
  | [n], H, _, q =>
    have h0 : C[(e : Int).toNat]? = some (Rw.pc n).v := H.at (k := 0) rfl (by omega)
    have h1 : C[((e : Int) + 1).toNat]? = some Rw.pr.v := H.at (k := 1) rfl (by omega)
    repeat (first | (rw [h0]; skip) | (rw [h1]; skip) | wtm_at "one")
    refine q _ _ ⟨fun j hj => by wtm_at "st", fun j hj => by wtm_at "st"⟩ (Nat.le_refl _) (by wtm_at "st" <;> rfl)
  | n :: m :: l, H, hn, q =>
    have h0 := H.at (k := 0) (j := e) codeR_try (by omega)
    repeat (first | (rw [h0]; skip) | wtm_at "one")
    wtm_at "w"
    have F₁ : Fr σ (((σ.add (.list [])).add (.list [.int e])).add (.list [.int (e + (l.length + 2))])) := ⟨fun j hj => by wtm_at "st", fun j hj => by wtm_at "st"⟩
    have hr₁ : (((σ.add (.list [])).add (.list [.int e])).add (.list [.int (e + (l.length + 2))])).get σ.len = some (.list []) := by wtm_at "st"
    have ho₁ : (((σ.add (.list [])).add (.list [.int e])).add (.list [.int (e + (l.length + 2))])).get ((σ.add (.list [])).add (.list [.int e])).len = some (.list [.int (e + (l.length + 2))]) := by wtm_at "st"
    have hro : σ.len ≠ ((σ.add (.list [])).add (.list [.int e])).len := by simp only [St.len_add]; omega
    have hro' := Ne.symm hro
    have hlt := St.get_lt h11
    have ho11 : ((σ.add (.list [])).add (.list [.int e])).len ≠ 11 := by simp only [St.len_add]; omega
    have holt : σ.len < ((σ.add (.list [])).add (.list [.int e])).len := by simp only [St.len_add]; omega
    have hr11 : σ.len ≠ 11 := by omega
    generalize ((σ.add (.list [])).add (.list [.int e])).add (.list [.int (e + (l.length + 2))]) = σ₁ at F₁ hr₁ ho₁ ⊢
    generalize ((σ.add (.list [])).add (.list [.int e])).len = o at ho₁ hro hro' ho11 holt ⊢
    obtain ⟨f1, f1'⟩ := F₁
    have hll : l.length < 1000 := by simp at hn; omega
    refine ⟨l.length + 1, ?_⟩
    refine while_up (fun k ℓ σ' => Has ℓ [(0, .obj 11), (3, .obj σ.len), (4, .obj o), (5, .int (e + 1 + k))] ∧ Fr1 o σ₁ σ' ∧ σ'.get o = some (.list ((List.range (k + 1)).map fun (i : Nat) => V.int (e + (l.length + 2) + 2 * i)))) l.length ?_ ?_ ?_
    · rintro k ℓ σ' K hk ⟨h1, ⟨f2, f2'⟩, h2⟩ kk
      obtain ⟨ℓ, rfl⟩ := h1.ex
      have hrow := H.at (k := k + 1) (j := e + 1 + k) (codeR_retry hk) (by omega)
      repeat (first | (rw [hrow]; skip) | wtm_at "one")
      refine kk _ _ ⟨⟨rfl, rfl, rfl, ?_, trivial⟩, ⟨fun j hj hne => by wtm_at "st", fun j hj hne => by wtm_at "st"⟩, ?_⟩
      · show some (V.int _) = _
        congr 2
      · wtm_at "st"
        rw [List.range_succ (n := k + 1), List.map_append]
        simp
        omega
    · rintro ℓ σ' ⟨h1, ⟨f2, f2'⟩, h2⟩
      obtain ⟨ℓ, rfl⟩ := h1.ex
      have hrow := H.at (k := l.length + 1) (j := e + 1 + l.length) codeR_trust (by omega)
      repeat (first | (rw [hrow]; skip) | wtm_at "one")
      have hl2 : (List.range (l.length + 1)).map (fun (i : Nat) => V.int (e + (l.length + 2) + 2 * i)) ++ [V.int (e + (l.length + 2) + 2 * (l.length + 1))] = (List.range (l.length + 1 + 1)).map (fun (i : Nat) => V.int (e + (l.length + 2) + 2 * i)) := by
        rw [List.range_succ (n := l.length + 1), List.map_append]
        simp
      rw [hl2]
      have t1 : (σ'.put o (.list ((List.range (l.length + 1 + 1)).map (fun (i : Nat) => V.int (e + (l.length + 2) + 2 * i))))).get 11 = some (.list C) := by wtm_at "st"
      have t2 : (σ'.put o (.list ((List.range (l.length + 1 + 1)).map (fun (i : Nat) => V.int (e + (l.length + 2) + 2 * i))))).get σ.len = some (.list []) := by wtm_at "st"
      have t3 : Fr1 o σ₁ (σ'.put o (.list ((List.range (l.length + 1 + 1)).map (fun (i : Nat) => V.int (e + (l.length + 2) + 2 * i))))) := ⟨fun j hj hne => by wtm_at "st", fun j hj hne => by wtm_at "st"⟩
      have t4 : ((σ'.put o (.list ((List.range (l.length + 1 + 1)).map (fun (i : Nat) => V.int (e + (l.length + 2) + 2 * i))))).get o).isSome = true := by wtm_at "st"
      generalize σ'.put o (.list ((List.range (l.length + 1 + 1)).map (fun (i : Nat) => V.int (e + (l.length + 2) + 2 * i)))) = τ at t1 t2 t3 t4 ⊢
      obtain ⟨t3, t3'⟩ := t3
      clear f2 f2' h2
      refine for_range (N := l.length + 1 + 1) (fun (i : Nat) => V.int (e + (l.length + 2) + 2 * i)) (fun k ℓ τ' => Has ℓ [(0, .obj 11), (3, .obj σ.len)] ∧ Fr1 σ.len τ τ' ∧ τ'.get σ.len = some (.list (toInts ((n :: m :: l).take k)))) ?_ ?_ ?_ ?_
      · exact ⟨⟨rfl, rfl, trivial⟩, ⟨fun ζ ζ ζ => rfl, fun ζ ζ ζ => rfl⟩, by rw [t2]; rfl⟩
      · rintro k ℓ τ' ⟨_, ⟨t5, t5'⟩, _⟩
        simp only [srcVer]
        wtm_at "st"
      · rintro k ℓ τ' K hk ⟨h1, ⟨t5, t5'⟩, h2⟩ kk
        obtain ⟨ℓ, rfl⟩ := h1.ex
        have hk' : k < (n :: m :: l).length := by simpa using hk
        have hrow := H.at (j := e + (l.length + 2) + 2 * k) (codeR_pc hk') (by omega)
        have hrow2 := H.at (j := e + (l.length + 2) + 2 * k + 1) (codeR_pr hk') (by omega)
        have hlt2 : (toInts ((n :: m :: l).take k)).length < 2000 := by simp only [toInts, List.length_map, List.length_take]; omega
        repeat (first | (rw [hrow]; skip) | (rw [hrow2]; skip) | wtm_at "one")
        refine kk _ _ ⟨⟨rfl, rfl, trivial⟩, ⟨fun j hj hne => by wtm_at "st", fun j hj hne => by wtm_at "st"⟩, ?_⟩
        wtm_at "st"
        rw [List.take_succ_eq_append_getElem hk']
        simp only [toInts, List.map_append, List.map_cons, List.map_nil]
      · rintro ℓ τ' ⟨h1, ⟨t5, t5'⟩, h2⟩
        obtain ⟨ℓ, rfl⟩ := h1.ex
        refine q _ _ ⟨fun j hj => ?_, fun j hj => ?_⟩ (Nat.le_refl _) ?_
        · have h8 : o ≠ j := by have := St.get_lt' hj; omega
          wtm_at "st"
        · have h8 : o ≠ j := by have := St.get_lt' hj; omega
          wtm_at "st"
        · rw [h2]
          rw [List.take_of_length_le (by simp)]
    · refine ⟨⟨rfl, rfl, rfl, ?_, trivial⟩, ⟨fun ζ ζ ζ => rfl, fun ζ ζ ζ => rfl⟩, ?_⟩
      · simp; rfl
      · simp [ho₁]
end
end
section
section
variable {Γ : Env'} {σ : St} {Q X : V → St → Prop}
theorem sp_procinit {s : Nat} {f : Int} {kind : Str} (G : Ok 1 Γ) (hs : σ.get s = some (.inst 2 []))
    (q : ∀ σ' c t, Fr1 s σ σ' → σ'.get s = some (procO f kind (-1) c t false false false) → σ'.get c = some (cdsO []) → s ≠ c → σ.len ≤ c → Q .none σ') : Γ.fn 52 [.obj s, .int f, .str kind] σ Q X := by
  refine G.run fun Γ G => ⟨rfl, ?_⟩
  wtm_at "go"
  refine q _ _ _ ?zfr (St.gp_eq ?za) ?zb ?zc ?zd
  case zfr => exact ⟨fun j hj hne => by wtm_at "st", fun j hj hne => by wtm_at "st"⟩
  case zb => unfold cdsO; wtm_at "st" <;> rfl
  case zd => simp only [St.len_put]; omega
  all_goals wtm_at "st"
theorem sp_codeinit {s i : Nat} {f : Int} (G : Ok 1 Γ) (hs : σ.get s = some (.inst 5 []))
    (q : ∀ σ', Fr1 s σ σ' → σ'.len = σ.len → σ'.get s = some (codeO f i) → Q .none σ') : Γ.fn 55 [.obj s, .int f, .tup [.str "var"], .obj i, .int 1] σ Q X := by
  refine G.run fun Γ G => ⟨rfl, ?_⟩
  wtm_at "go"
  refine q _ ?zfr ?zl (St.gp_eq ?za)
  case zfr => exact ⟨fun j hj hne => by wtm_at "st", fun j hj hne => by wtm_at "st"⟩
  case zl => simp only [St.len_put]
  all_goals wtm_at "st"
theorem sp_name {f a : Int} {b : V} {fu : List V} (G : Ok 1 Γ) (h3 : σ.get 3 = some symO) (h6 : σ.get 6 = some (.list fu)) (hf : 0 ≤ f ∧ f < 1000) (hg : fu[f.toNat]? = some (.tup [.int a, b])) (q : Q (.int a) σ) :
    Γ.fn 139 [.obj 3, .int f] σ Q X := by
  refine G.run fun Γ G => ⟨rfl, ?_⟩
  unfold symO at h3
  repeat (first | (rw [hg]; skip) | wtm_at "one")
  exact q
theorem sp_text {a : Int} {t : Str} {tx : List V} (G : Ok 1 Γ) (h3 : σ.get 3 = some symO) (h4 : σ.get 4 = some (.list tx)) (hf : 0 ≤ a ∧ a < 1000) (hg : tx[a.toNat]? = some (.str t)) (q : Q (.str t) σ) :
    Γ.fn 137 [.obj 3, .int a] σ Q X := by
  refine G.run fun Γ G => ⟨rfl, ?_⟩
  unfold symO at h3
  repeat (first | (rw [hg]; skip) | wtm_at "one")
  exact q
/- a functor of the table: its atom, its text, its arity -/
structure FuAt (σ : St) (f a ar : Int) (t : Str) : Prop where
  i : σ.get 3 = some symO
  fu : ∃ fu, σ.get 6 = some (.list fu) ∧ (0 ≤ f ∧ f < 1000) ∧ fu[f.toNat]? = some (.tup [.int a, .int ar])
  tx : ∃ tx, σ.get 4 = some (.list tx) ∧ (0 ≤ a ∧ a < 1000) ∧ tx[a.toNat]? = some (.str t)
theorem FuAt.name {f a ar : Int} {t : Str} (H : FuAt σ f a ar t) (G : Ok 1 Γ) (q : Q (.int a) σ) : Γ.fn 139 [.obj 3, .int f] σ Q X := let ⟨_, h1, h2, h3⟩ := H.fu; sp_name G H.i h1 h2 h3 q
theorem FuAt.arity {f a ar : Int} {t : Str} (H : FuAt σ f a ar t) (G : Ok 1 Γ) (q : Q (.int ar) σ) : Γ.fn 104 [.obj 3, .int f] σ Q X := let ⟨_, h1, h2, h3⟩ := H.fu; sp_arity G H.i h1 h2 h3 q
theorem FuAt.text {f a ar : Int} {t : Str} (H : FuAt σ f a ar t) (G : Ok 1 Γ) (q : Q (.str t) σ) : Γ.fn 137 [.obj 3, .int a] σ Q X := let ⟨_, h1, h2, h3⟩ := H.tx; sp_text G H.i h1 h2 h3 q
theorem FuAt.keep {σ' : St} {f a ar : Int} {t : Str} (H : FuAt σ f a ar t) (h3 : σ'.get 3 = σ.get 3) (h4 : σ'.get 4 = σ.get 4) (h6 : σ'.get 6 = σ.get 6) : FuAt σ' f a ar t :=
  ⟨by rw [h3]; exact H.i, let ⟨fu, h⟩ := H.fu; ⟨fu, by rw [h6]; exact h⟩, let ⟨tx, h⟩ := H.tx; ⟨tx, by rw [h4]; exact h⟩⟩

theorem sp_missing {f : V} {a : V} (G : Ok 1 Γ) (q : Q .none σ) : Γ.fn 548 [a, f] σ Q X := by
  refine G.run fun Γ G => ⟨rfl, ?_⟩
  exact q
section
variable {w P c t : Nat} {f entry : Int} {kind : Str} {lib hel : Bool} {D : List (V × V)}
theorem sp_lookup0 (G : Ok 2 Γ) (h9 : σ.get 9 = some (areaO w)) (h13 : σ.get 13 = some (.dict D)) (hd : dfit (.int f) D) (hg : dget (.int f) D = none) (q : Q .none σ) : Γ.fn 549 [.obj 9, .int f] σ Q X := by
  refine G.run fun Γ G => ⟨rfl, ?_⟩
  unfold areaO at h9
  wtm_at "go"
  refine sp_missing (G.le (by omega)) ?_
  exact q
theorem sp_lookup1 (G : Ok 1 Γ) (h9 : σ.get 9 = some (areaO w)) (h13 : σ.get 13 = some (.dict D)) (hd : dfit (.int f) D) (hg : dget (.int f) D = some (.obj P)) (hP : σ.get P = some (procO f kind entry c t lib hel false)) (q : Q (.obj P) σ) :
    Γ.fn 549 [.obj 9, .int f] σ Q X := by
  refine G.run fun Γ G => ⟨rfl, ?_⟩
  unfold areaO at h9
  unfold procO at hP
  wtm_at "go"
  exact q
theorem sp_lookup2 {a : V} {ar : Int} {fu : List V} {cs : List Cd} {C : List V} (G : Ok 9 Γ) (h9 : σ.get 9 = some (areaO w)) (h13 : σ.get 13 = some (.dict D)) (hd : dfit (.int f) D) (hg : dget (.int f) D = some (.obj P))
    (h11 : σ.get 11 = some (.list C)) (h12 : σ.get 12 = some (.dict SH))
    (h3 : σ.get 3 = some symO) (h6 : σ.get 6 = some (.list fu)) (hf : 0 ≤ f ∧ f < 1000) (hg2 : fu[f.toNat]? = some (.tup [a, .int ar])) (ha : 0 ≤ ar)
    (hP : σ.get P = some (procO f kind entry c t lib hel true)) (hc : σ.get c = some (cdsO cs)) (hcs : ∀ x ∈ cs, CdAt σ f x) (hl : cs.length < 5000) (hC : C.length < 100000) (hne : 11 ≠ P)
    (q : ∀ σ', Fr2 11 P σ σ' → σ'.get 11 = some (.list (C ++ (codeR ar (cs.map (·.n)) C.length).map Rw.v)) → σ'.get P = some (procO f kind C.length c t lib hel false) → Q (.obj P) σ') :
    Γ.fn 549 [.obj 9, .int f] σ Q X := by
  refine G.run fun Γ G => ⟨rfl, ?_⟩
  have h9' := h9
  have hP' := hP
  unfold areaO at h9'
  unfold procO at hP'
  wtm_at "go"
  refine sp_linkp (G.le (by omega)) h9 h11 h12 h3 h6 hf hg2 ha hP hc hcs hl hC hne fun σ' F h11' hP'' => ?_
  exact q _ F h11' hP''
end
end
end
section
section
variable {Γ : Env'} {σ : St} {Q X : V → St → Prop}
variable {w P c t : Nat} {f entry : Int} {kind : Str} {lib hel pend : Bool} {D : List (V × V)}
theorem sp_fixed0 {a ar : Int} {s : Str} (G : Ok 2 Γ) (h9 : σ.get 9 = some (areaO w)) (h13 : σ.get 13 = some (.dict D)) (hd : dfit (.int f) D) (hg : dget (.int f) D = none) (H : FuAt σ f a ar s) (q : Q (.bool (PySem.Txt.startswith s "$")) σ) :
    Γ.fn 551 [.obj 9, .int f] σ Q X := by
  refine G.run fun Γ G => ⟨rfl, ?_⟩
  have h3 := H.i
  unfold symO at h3
  unfold areaO at h9
  wtm_at "go"
  refine H.name (G.le (by omega)) ?_
  refine H.text (G.le (by omega)) ?_
  wtm_at "go"
  exact q
theorem sp_fixed1 {a ar : Int} {s : Str} (G : Ok 2 Γ) (h9 : σ.get 9 = some (areaO w)) (h13 : σ.get 13 = some (.dict D)) (hd : dfit (.int f) D) (hg : dget (.int f) D = some (.obj P)) (hP : σ.get P = some (procO f kind entry c t lib hel pend)) (hk : kind = "static" ∨ kind = "dynamic")
    (H : FuAt σ f a ar s) (q : Q (.bool (PySem.Txt.startswith s "$")) σ) : Γ.fn 551 [.obj 9, .int f] σ Q X := by
  refine G.run fun Γ G => ⟨rfl, ?_⟩
  have h3 := H.i
  unfold symO at h3
  unfold areaO at h9
  unfold procO at hP
  rcases hk with rfl | rfl
  all_goals
    wtm_at "go"
    refine H.name (G.le (by omega)) ?_
    refine H.text (G.le (by omega)) ?_
    wtm_at "go"
    exact q
theorem sp_fixed2 (G : Ok 2 Γ) (h9 : σ.get 9 = some (areaO w)) (h13 : σ.get 13 = some (.dict D)) (hd : dfit (.int f) D) (hg : dget (.int f) D = some (.obj P)) (hP : σ.get P = some (procO f kind entry c t lib hel pend)) (hk : kind = "builtin" ∨ kind = "control")
    (q : Q (.bool true) σ) : Γ.fn 551 [.obj 9, .int f] σ Q X := by
  refine G.run fun Γ G => ⟨rfl, ?_⟩
  unfold areaO at h9
  unfold procO at hP
  rcases hk with rfl | rfl
  all_goals
    wtm_at "go"
    exact q
theorem sp_writ_new {a ar : Int} {s kd : Str} (G : Ok 3 Γ) (h9 : σ.get 9 = some (areaO w)) (h13 : σ.get 13 = some (.dict D)) (hd : dfit (.int f) D) (hD : D.length < 1000)
    (hg : dget (.int f) D = none ∨ ∃ P kind entry c t hel pend, dget (.int f) D = some (.obj P) ∧ σ.get P = some (procO f kind entry c t true hel pend) ∧ (kind = "static" ∨ kind = "dynamic"))
    (H : FuAt σ f a ar s) (hs : PySem.Txt.startswith s "$" = false)
    (q : ∀ σ' c t, Fr1 13 σ σ' → σ'.get σ.len = some (procO f kd (-1) c t false false false) → σ'.get c = some (cdsO []) → σ.len < c → σ'.get 13 = some (.dict (dput (.int f) (.obj σ.len) D)) → Q (.obj σ.len) σ') :
    Γ.fn 552 [.obj 9, .int f, .str kd] σ Q X := by
  refine G.run fun Γ G => ⟨rfl, ?_⟩
  have h9' := h9
  unfold areaO at h9'
  rcases hg with hg | ⟨P, kind, entry, c, t, hel, pend, hg, hP, hk⟩
  · skip
    wtm_at "go"
    refine sp_fixed0 (G.le (by omega)) h9 h13 hd hg H ?_
    rw [hs]
    wtm_at "go"
    refine sp_procinit (G.le (by omega)) (by wtm_at "st") fun σ₁ c t F hp hc hne hle => ?_
    obtain ⟨f1, f1'⟩ := F
    rw [St.len_add] at hle
    wtm_at "go"
    have hne' : 13 ≠ c := by have := St.get_lt h13; omega
    refine q _ c t ⟨fun j hj hne => by wtm_at "st", fun j hj hne => by wtm_at "st"⟩ (by wtm_at "st") (by wtm_at "st") (by omega) (by wtm_at "st")
  · have hP' := hP
    unfold procO at hP'
    wtm_at "go"
    refine sp_fixed1 (G.le (by omega)) h9 h13 hd hg hP hk H ?_
    rw [hs]
    wtm_at "go"
    refine sp_procinit (G.le (by omega)) (by wtm_at "st") fun σ₁ c t F hp hc hne hle => ?_
    obtain ⟨f1, f1'⟩ := F
    rw [St.len_add] at hle
    wtm_at "go"
    have hne' : 13 ≠ c := by have := St.get_lt h13; omega
    refine q _ c t ⟨fun j hj hne => by wtm_at "st", fun j hj hne => by wtm_at "st"⟩ (by wtm_at "st") (by wtm_at "st") (by omega) (by wtm_at "st")
theorem sp_writ_old {a ar : Int} {s kd : Str} (G : Ok 3 Γ) (h9 : σ.get 9 = some (areaO w)) (h13 : σ.get 13 = some (.dict D)) (hd : dfit (.int f) D) 
    (hg : dget (.int f) D = some (.obj P)) (hP : σ.get P = some (procO f kind entry c t false hel pend)) (hk : kind = "static" ∨ kind = "dynamic")
    (H : FuAt σ f a ar s) (hs : PySem.Txt.startswith s "$" = false) (q : Q (.obj P) σ) :
    Γ.fn 552 [.obj 9, .int f, .str kd] σ Q X := by
  refine G.run fun Γ G => ⟨rfl, ?_⟩
  have h9' := h9
  unfold areaO at h9'
  have hP' := hP
  unfold procO at hP'
  wtm_at "go"
  refine sp_fixed1 (G.le (by omega)) h9 h13 hd hg hP hk H ?_
  rw [hs]
  wtm_at "go"
  exact q
theorem sp_define {a : V} {ar : Int} {fu : List V} {cs : List Cd} {C : List V} (G : Ok 9 Γ) (h9 : σ.get 9 = some (areaO w)) (h13 : σ.get 13 = some (.dict D)) (hd : dfit (.int f) D) (hD : D.length < 1000)
    (h11 : σ.get 11 = some (.list C)) (h12 : σ.get 12 = some (.dict SH)) (h3 : σ.get 3 = some symO) (h6 : σ.get 6 = some (.list fu)) (hf : 0 ≤ f ∧ f < 1000) (hg2 : fu[f.toNat]? = some (.tup [a, .int ar])) (ha : 0 ≤ ar)
    (hc : σ.get c = some (cdsO cs)) (hcs : ∀ x ∈ cs, CdAt σ f x) (hl : cs.length < 5000) (hC : C.length < 100000) (hc13 : 13 ≠ c) (hx : ∀ x ∈ cs, 13 ≠ x.c ∧ 13 ≠ x.i)
    (q : ∀ σ' t, Fr2 13 11 σ σ' → σ'.get 11 = some (.list (C ++ (codeR ar (cs.map (·.n)) C.length).map Rw.v)) → σ'.get σ.len = some (procO f "static" C.length c t false false false) → σ'.get 13 = some (.dict (dput (.int f) (.obj σ.len) D)) → Q (.obj σ.len) σ') :
    Γ.fn 546 [.obj 9, .int f, .obj c] σ Q X := by
  refine G.run fun Γ G => ⟨rfl, ?_⟩
  have h9' := h9
  unfold areaO at h9'
  wtm_at "go"
  refine sp_procinit (G.le (by omega)) (by wtm_at "st") fun σ₁ c' t F hp hc' hne hle => ?_
  obtain ⟨f1, f1'⟩ := F
  rw [St.len_add] at hle
  have hp' := hp
  unfold procO at hp'
  wtm_at "go"
  have hlt := St.get_lt h11
  have hne11 : 11 ≠ σ.len := by omega
  have hne13 : 13 ≠ σ.len := by have := St.get_lt h13; omega
  refine sp_linkp (P := σ.len) (w := w) (c := c) (t := t) (f := f) (ar := ar) (entry := -1) (kind := "static") (lib := false) (hel := false) (pend := false) (a := a) (fu := fu) (cs := cs) (C := C) (G.le (by omega)) (by wtm_at "st") (by wtm_at "st") (by wtm_at "st") (by wtm_at "st") (by wtm_at "st") hf hg2 ha (by wtm_at "st" <;> rfl) (by wtm_at "st") ?_ hl hC hne11 fun σ₂ F₂ h11' hP'' => ?_
  · intro x hx'
    obtain ⟨h1, h2⟩ := hcs x hx'
    obtain ⟨h4, h5⟩ := hx x hx'
    exact ⟨by wtm_at "st", by wtm_at "st"⟩
  obtain ⟨f2, f2'⟩ := F₂
  refine q _ t ⟨fun j hj ζ ζ => ?_, fun j hj ζ ζ => ?_⟩ h11' hP'' ?_
  · have h8 : σ.len ≠ j := by have := St.get_lt' hj; omega
    wtm_at "st"
  · have h8 : σ.len ≠ j := by have := St.get_lt' hj; omega
    wtm_at "st"
  · have h8 := Ne.symm hne13
    wtm_at "st"
theorem sp_isusers (G : Ok 1 Γ) (hP : σ.get P = some (procO f kind entry c t lib hel pend)) (hk : kind = "static" ∨ kind = "dynamic") (q : Q (.bool (!(lib || hel))) σ) : Γ.fn 354 [.obj P] σ Q X := by
  refine G.run fun Γ G => ⟨rfl, ?_⟩
  unfold procO at hP
  rcases hk with rfl | rfl <;> cases lib <;> cases hel
  all_goals
    wtm_at "go"
    exact q
theorem sp_isusers2 (G : Ok 1 Γ) (hP : σ.get P = some (procO f kind entry c t false false pend)) (hk : kind = "builtin" ∨ kind = "control") (q : Q (.bool false) σ) : Γ.fn 354 [.obj P] σ Q X := by
  refine G.run fun Γ G => ⟨rfl, ?_⟩
  unfold procO at hP
  rcases hk with rfl | rfl
  all_goals
    wtm_at "go"
    exact q
end
end
section
set_option genInjectivity true in
/- what is known of an object's role -/
inductive Tag where
  | fix (i : Nat) | own (f : Int) (k : Nat) | wait | imm
noncomputable abbrev Tg := Nat → Tag
/- all is kept but what bears such a tag -/
structure FrT (tg : Tg) (M : Tag → Prop) (σ σ' : St) : Prop where
  g : ∀ j, (σ.get j).isSome = true → ¬ M (tg j) → σ'.get j = σ.get j
  v : ∀ j, (σ.get j).isSome = true → ¬ M (tg j) → σ'.ver j = σ.ver j
theorem Fr.tag {tg : Tg} {M : Tag → Prop} {σ σ' : St} (F : Fr σ σ') : FrT tg M σ σ' := ⟨fun j h ζ => F.g j h, fun j h ζ => F.v j h⟩
theorem Fr1.tag {tg : Tg} {i : Nat} {σ σ' : St} (F : Fr1 i σ σ') {M : Tag → Prop} (h : M (tg i)) : FrT tg M σ σ' :=
  ⟨fun j hj hm => F.g j hj fun e => hm (e ▸ h), fun j hj hm => F.v j hj fun e => hm (e ▸ h)⟩
theorem Fr2.tag {tg : Tg} {i k : Nat} {σ σ' : St} (F : Fr2 i k σ σ') {M : Tag → Prop} (h : M (tg i)) (h2 : M (tg k)) : FrT tg M σ σ' :=
  ⟨fun j hj hm => F.g j hj (fun e => hm (e ▸ h)) fun e => hm (e ▸ h2), fun j hj hm => F.v j hj (fun e => hm (e ▸ h)) fun e => hm (e ▸ h2)⟩
theorem FrT.trans {tg : Tg} {M : Tag → Prop} {a b c : St} (x : FrT tg M a b) (y : FrT tg M b c) : FrT tg M a c :=
  ⟨fun j h m => (y.g j (by rw [x.g j h m]; exact h) m).trans (x.g j h m), fun j h m => (y.v j (by rw [x.g j h m]; exact h) m).trans (x.v j h m)⟩
theorem FrT.mono {tg : Tg} {M N : Tag → Prop} {a b : St} (x : FrT tg M a b) (h : ∀ t, M t → N t) : FrT tg N a b := ⟨fun j hj m => x.g j hj fun z => m (h _ z), fun j hj m => x.v j hj fun z => m (h _ z)⟩
theorem FrT.refl {tg : Tg} {M : Tag → Prop} {a : St} : FrT tg M a a := ⟨fun ζ ζ ζ => rfl, fun ζ ζ ζ => rfl⟩

noncomputable def upd {α : Type} (P : Int → α) (f : Int) (x : α) : Int → α := fun g => if g = f then x else P g
theorem upd_same {α : Type} {P : Int → α} {f : Int} {x : α} : upd P f x f = x := if_pos rfl
theorem upd_ne {α : Type} {P : Int → α} {f g : Int} {x : α} (h : g ≠ f) : upd P f x g = P g := if_neg h
/- a dict by functors -/
noncomputable def E (base : List (V × V)) (fs : List Int) (P : Int → Nat) : List (V × V) := base ++ fs.map fun f => (V.int f, V.obj (P f))
noncomputable def Off (base : List (V × V)) (f : Int) : Prop := ∀ e ∈ base, keyKind e.1 = 1 ∧ eqKey e.1 (.int f) = false
theorem dget_app : ∀ {a b : List (V × V)} {k : V}, (∀ e ∈ a, eqKey e.1 k = false) → dget k (a ++ b) = dget k b
  | [], _, _, _ => rfl
  | (x, v) :: a, b, k, h => by
    show (if eqKey x k then _ else _) = _
    rw [h (x, v) (.head _), if_neg (by simp)]; exact dget_app fun e he => h e (.tail _ he)
theorem dput_app : ∀ {a b : List (V × V)} {k v : V}, (∀ e ∈ a, eqKey e.1 k = false) → dput k v (a ++ b) = a ++ dput k v b
  | [], _, _, _, _ => rfl
  | (x, u) :: a, b, k, v, h => by
    show (if eqKey x k then _ else _) = _
    rw [h (x, u) (.head _), if_neg (by simp)]; show (x, u) :: dput k v (a ++ b) = _; rw [dput_app fun e he => h e (.tail _ he)]; rfl
theorem eqKey_int {a b : Int} : eqKey (.int a) (.int b) = decide (a = b) := rfl
theorem dget_E {base : List (V × V)} {fs : List Int} {P : Int → Nat} {f : Int} (hb : Off base f) : (f ∈ fs → dget (.int f) (E base fs P) = some (.obj (P f))) ∧ (f ∉ fs → dget (.int f) (E base fs P) = none) := by
  unfold E
  rw [dget_app fun e he => (hb e he).2]
  induction fs with
  | nil => exact ⟨fun h => (by cases h), fun ζ => rfl⟩
  | cons g fs ih =>
    rw [List.map_cons]
    show (f ∈ g :: fs → (if eqKey (.int g) (.int f) then _ else _) = _) ∧ (_ → (if eqKey (.int g) (.int f) then _ else _) = _)
    rw [eqKey_int]
    by_cases e : g = f
    · subst e
      simp
    · simp [e]
      exact ⟨fun h => by
        rcases h with h | h
        · exact absurd h.symm e
        · exact ih.1 h, fun h1 h => ih.2 h⟩
theorem dput_E {base : List (V × V)} {fs : List Int} {P : Int → Nat} {f : Int} {x : Nat} (hb : Off base f) (hn : fs.Nodup) : (f ∈ fs → dput (.int f) (.obj x) (E base fs P) = E base fs (upd P f x)) ∧ (f ∉ fs → dput (.int f) (.obj x) (E base fs P) = E base (fs ++ [f]) (upd P f x)) := by
  unfold E
  rw [dput_app fun e he => (hb e he).2]
  have cong : ∀ {gs : List Int}, f ∉ gs → (gs.map fun g => (V.int g, V.obj (P g))) = gs.map fun g => (V.int g, V.obj (upd P f x g)) := fun {gs} h =>
    List.map_congr_left fun g hg => by rw [upd_ne (show g ≠ f from fun e => h (by rw [← e]; exact hg))]
  induction fs with
  | nil => exact ⟨fun h => (by cases h), fun ζ => (by simp [dput, upd_same])⟩
  | cons g fs ih =>
    rw [List.nodup_cons] at hn
    rw [List.map_cons]
    show (f ∈ g :: fs → base ++ (if eqKey (.int g) (.int f) then _ else _) = _) ∧ (_ → base ++ (if eqKey (.int g) (.int f) then _ else _) = _)
    rw [eqKey_int]
    by_cases e : g = f
    · subst e
      refine ⟨fun ζ => ?_, fun h => absurd (.head _) h⟩
      rw [decide_eq_true rfl, if_pos rfl, List.map_cons, upd_same, cong hn.1]
    · rw [decide_eq_false e, if_neg (by simp)]
      refine ⟨fun h => ?_, fun h => ?_⟩
      · have h : f ∈ fs := by
          rcases List.mem_cons.mp h with h | h
          · exact absurd h.symm e
          · exact h
        rw [List.map_cons, upd_ne e]
        have := (ih hn.2).1 h
        rw [List.append_cancel_left this]
      · have h : f ∉ fs := fun z => h (.tail _ z)
        rw [List.cons_append, List.map_cons, upd_ne e]
        have := (ih hn.2).2 h
        rw [List.append_cancel_left this]
theorem dfit_E {base : List (V × V)} {fs : List Int} {P : Int → Nat} {f : Int} (hb : Off base f) : dfit (.int f) (E base fs P) := by
  refine ⟨Nat.succ_ne_zero _, fun e he => ?_⟩
  rcases List.mem_append.mp he with he | he
  · exact (hb e he).1
  · obtain ⟨g, _, rfl⟩ := List.mem_map.mp he
    rfl
theorem E_len {base : List (V × V)} {fs : List Int} {P : Int → Nat} : (E base fs P).length = base.length + fs.length := by simp [E]
theorem E_keys {fs : List Int} {P : Int → Nat} : (E [] fs P).map (·.1) = fs.map V.int := by simp [E]

/- the three functors of the law's own predicates -/
noncomputable def freeF (f : Int) : Prop := f = 33 ∨ f = 34 ∨ f = 35
noncomputable def atomOf (f : Int) : Int := if f = 35 then 31 else 30
noncomputable def arOf (f : Int) : Int := if f = 33 then 1 else if f = 34 then 0 else 3
noncomputable def txOf (f : Int) : Str := if f = 35 then "a" else "p"
structure PEn where
  kind : Str
  cs : List Cd
  ent : Option (Nat × List Int)
  pend : Bool
  mark : Nat
  P : Nat
  C : Nat
  T : Nat
structure REn where
  kind : Str
  nums : List Int
  lk : Option (List Int)
  pend : Bool
  mark : Nat
  R : Nat
  N : Nat
  L : Nat
noncomputable def entI : Option (Nat × List Int) → Int
  | none => -1
  | some (a, _) => a
noncomputable def lkV (L : Nat) : Option (List Int) → V
  | none => .none
  | some _ => .obj L
noncomputable def markS : Nat → Str
  | 0 => ""
  | 1 => "library"
  | _ => "helper"
noncomputable def PEn.o (f : Int) (p : PEn) : O := procO f p.kind (entI p.ent) p.C p.T (p.mark == 1) (p.mark == 2) p.pend
structure PAt (tg : Tg) (σ : St) (C : List V) (f : Int) (p : PEn) : Prop where
  P : σ.get p.P = some (p.o f)
  oC : σ.get p.C = some (cdsO p.cs)
  cs : ∀ x ∈ p.cs, CdAt σ f x
  led : ∀ a l, p.ent = some (a, l) → Led C a (arOf f) l ∧ l.length < 1000 ∧ a < 100000
  kd : p.kind = "static" ∨ p.kind = "dynamic"
  mrk : p.mark < 3
  small : p.cs.length < 1000
  tP : tg p.P = .own f 0
  tC : tg p.C = .own f 1
  tcs : ∀ x ∈ p.cs, tg x.c = .imm ∧ tg x.i = .imm
structure RAt (tg : Tg) (σ : St) (f : Int) (r : REn) : Prop where
  R : σ.get r.R = some (.list [.str r.kind, .obj r.N, lkV r.L r.lk, .bool r.pend, .str (markS r.mark)])
  N : σ.get r.N = some (.list (toInts r.nums))
  L : ∀ l, r.lk = some l → σ.get r.L = some (.list (toInts l)) ∧ tg r.L = .imm
  tR : tg r.R = .own f 2
  tN : tg r.N = .own f 3
structure Mat (p : PEn) (r : REn) : Prop where
  kind : p.kind = r.kind
  nums : p.cs.map (·.n) = r.nums
  lk : p.ent.map (·.2) = r.lk
  pend : p.pend = r.pend
  mark : p.mark = r.mark
theorem CdAt.keep {σ σ' : St} {f : Int} {x : Cd} (h : CdAt σ f x) (k : ∀ j, (σ.get j).isSome = true → j = x.c ∨ j = x.i → σ'.get j = σ.get j) : CdAt σ' f x :=
  ⟨by rw [k _ (by rw [h.c]; rfl) (.inl rfl)]; exact h.c, by rw [k _ (by rw [h.i]; rfl) (.inr rfl)]; exact h.i⟩
theorem PAt.keep {tg tg' : Tg} {σ σ' : St} {C D : List V} {f : Int} {p : PEn} {M : Tag → Prop} (h : PAt tg σ C f p) (F : FrT tg M σ σ') (h1 : ∀ i, i < 2 → ¬ M (.own f i)) (h2 : ¬ M .imm) (hC : ∃ X, D = C ++ X) (ht : ∀ j, (σ.get j).isSome = true → tg' j = tg j) : PAt tg' σ' D f p := by
  have lx : ∀ x ∈ p.cs, (σ.get x.c).isSome = true ∧ (σ.get x.i).isSome = true := fun x hx => ⟨by rw [(h.cs x hx).c]; rfl, by rw [(h.cs x hx).i]; rfl⟩
  have lP : (σ.get p.P).isSome = true := by rw [h.P]; rfl
  have lC : (σ.get p.C).isSome = true := by rw [h.oC]; rfl
  obtain ⟨Y, rfl⟩ := hC
  refine ⟨by rw [F.g _ lP (by rw [h.tP]; exact h1 _ (by omega))]; exact h.P, by rw [F.g _ lC (by rw [h.tC]; exact h1 _ (by omega))]; exact h.oC, fun x hx => (h.cs x hx).keep fun j hj e => F.g j hj ?_, fun a l e => ?_, h.kd, h.mrk, h.small, by rw [ht _ lP]; exact h.tP, by rw [ht _ lC]; exact h.tC, fun x hx => ?_⟩
  · obtain ⟨a, b⟩ := h.tcs x hx
    rcases e with rfl | rfl
    · rw [a]; exact h2
    · rw [b]; exact h2
  · obtain ⟨a, b⟩ := h.led a l e
    exact ⟨a.more, b⟩
  · rw [ht _ (lx x hx).1, ht _ (lx x hx).2]; exact h.tcs x hx
theorem RAt.keep {tg tg' : Tg} {σ σ' : St} {f : Int} {r : REn} {M : Tag → Prop} (h : RAt tg σ f r) (F : FrT tg M σ σ') (h1 : ∀ i, 2 ≤ i → ¬ M (.own f i)) (h2 : ¬ M .imm) (ht : ∀ j, (σ.get j).isSome = true → tg' j = tg j) : RAt tg' σ' f r := by
  have lR : (σ.get r.R).isSome = true := by rw [h.R]; rfl
  have lN : (σ.get r.N).isSome = true := by rw [h.N]; rfl
  refine ⟨by rw [F.g _ lR (by rw [h.tR]; exact h1 _ (by omega))]; exact h.R, by rw [F.g _ lN (by rw [h.tN]; exact h1 _ (by omega))]; exact h.N, fun l e => ?_, by rw [ht _ lR]; exact h.tR, by rw [ht _ lN]; exact h.tN⟩
  obtain ⟨a, b⟩ := h.L l e
  have lL : (σ.get r.L).isSome = true := by rw [a]; rfl
  exact ⟨by rw [F.g _ lL (by rw [b]; exact h2)]; exact a, by rw [ht _ lL]; exact b⟩
end
section
noncomputable def PFl : List (Int × Nat) := [(32, 15), (1, 18), (2, 21), (3, 24), (4, 27), (20, 30), (5, 33), (24, 36), (25, 39), (26, 42), (27, 45), (28, 48), (29, 51), (30, 54), (31, 57), (18, 60)]
noncomputable def PF : List (V × V) := PFl.map fun x => (V.int x.1, V.obj x.2)
theorem off_PF {f : Int} (h : freeF f) : Off PF f := by
  intro e he
  obtain ⟨x, hx, rfl⟩ := List.mem_map.mp he
  refine ⟨rfl, ?_⟩
  rw [eqKey_int]
  refine decide_eq_false fun e => ?_
  have h1 : ∀ y ∈ PFl, y.1 < 33 := by decide
  have := h1 x hx
  rcases h with h | h | h <;> omega
theorem off_nil {f : Int} : Off [] f := fun ζ h => by cases h
theorem free_bd {f : Int} (h : freeF f) : 0 ≤ f ∧ f < 1000 := by rcases h with rfl | rfl | rfl <;> omega
theorem arOf_nn (f : Int) : 0 ≤ arOf f := by unfold arOf; split <;> (try split) <;> omega
theorem Ok.srt {k : Nat} {Γ : Env'} (G : Ok k Γ) : Γ.srt = sortRows := by
  obtain ⟨D, _, rfl⟩ := G
  exact srt_of D
theorem sortRows_len (rs : List Row3) : (sortRows rs).length = rs.length := by
  unfold sortRows
  split
  · rfl
  · have := (kasAll_run (lt := fun i j => rowLt (rs.getD i row0) (rs.getD j row0)) (sort_all (n := rs.length) (by omega))).2
    simpa using this

structure Ctx (tg : Tg) (σ : St) (w : Nat) (C : List V) (fs : List Int) (P : Int → Nat) : Prop where
  area : σ.get 9 = some (areaO w)
  code : σ.get 11 = some (.list C)
  shapes : σ.get 12 = some (.dict SH)
  procs : σ.get 13 = some (.dict (E PF fs P))
  sym : ∀ f, freeF f → FuAt σ f (atomOf f) (arOf f) (txOf f)
  tgF : ∀ i, i < 66 → i ≠ 14 → tg i = .fix i
noncomputable def PEn.linked (p : PEn) (a : Nat) : PEn := { p with ent := some (a, p.cs.map (·.n)), pend := false }
section
variable {Γ : Env'} {σ : St} {Q X : V → St → Prop} {tg : Tg} {w : Nat} {C : List V} {fs : List Int} {P : Int → Nat} {f : Int} {p : PEn}
/- what a link leaves -/
structure Linked (tg : Tg) (σ σ' : St) (C : List V) (f : Int) (p : PEn) : Prop where
  F : Fr2 11 p.P σ σ'
  F' : FrT tg (fun t => t = .fix 11 ∨ t = .own f 0) σ σ'
  code : σ'.get 11 = some (.list (C ++ (codeR (arOf f) (p.cs.map (·.n)) C.length).map Rw.v))
  p : PAt tg σ' (C ++ (codeR (arOf f) (p.cs.map (·.n)) C.length).map Rw.v) f (p.linked C.length)
theorem linked_of {σ' : St} (H : Ctx tg σ w C fs P) (hp : PAt tg σ C f p) (hC : C.length < 100000) (F : Fr2 11 p.P σ σ') (h11 : σ'.get 11 = some (.list (C ++ (codeR (arOf f) (p.cs.map (·.n)) C.length).map Rw.v)))
    (h : σ'.get p.P = some (procO f p.kind C.length p.C p.T (p.mark == 1) (p.mark == 2) false)) : Linked tg σ σ' C f p := by
  have t11 := H.tgF 11 (by omega) (by omega)
  have F' : FrT tg (fun t => t = .fix 11 ∨ t = .own f 0) σ σ' := F.tag (.inl t11) (.inr hp.tP)
  refine ⟨F, F', h11, ?_⟩
  have ni : ∀ {t : Tag}, t = .imm ∨ t = .own f 1 → ¬ (t = .fix 11 ∨ t = .own f 0) := fun {t} h => by rcases h with rfl | rfl <;> simp
  refine ⟨h, ?_, fun x hx => ?_, fun a l e => ?_, hp.kd, hp.mrk, hp.small, hp.tP, hp.tC, hp.tcs⟩
  · show σ'.get p.C = _
    rw [F'.g _ (by rw [hp.oC]; rfl) (ni (.inr hp.tC))]; exact hp.oC
  · refine (hp.cs x hx).keep fun j hj e => F'.g j hj (ni (.inl ?_))
    rcases e with rfl | rfl
    · exact (hp.tcs x hx).1
    · exact (hp.tcs x hx).2
  · cases e
    refine ⟨⟨C, [], rfl, by simp⟩, by simpa using hp.small, hC⟩
theorem sp_linkE (G : Ok 8 Γ) (H : Ctx tg σ w C fs P) (hf : freeF f) (hp : PAt tg σ C f p) (hC : C.length < 100000) (q : ∀ σ', Linked tg σ σ' C f p → Q .none σ') : Γ.fn 545 [.obj 9, .obj p.P] σ Q X := by
  have hP := hp.P
  obtain ⟨fu, h6, hb, hg⟩ := (H.sym f hf).fu
  refine sp_linkp G H.area H.code H.shapes (H.sym f hf).i h6 hb hg (arOf_nn f) hP hp.oC hp.cs (by have := hp.small; omega) hC ?_ fun σ' F h11 h => q σ' (linked_of H hp hC F h11 h)
  intro e
  have t11 := H.tgF 11 (by omega) (by omega)
  rw [e, hp.tP] at t11; cases t11

/- a procedure after the waiting ones are linked -/
noncomputable def Upd (d : List Int) (f : Int) (p p' : PEn) : Prop := (p' = p ∧ ¬ (p.pend = true ∧ f ∈ d)) ∨ (p.pend = true ∧ f ∈ d ∧ ∃ a, p' = p.linked a)
theorem Ctx.upd {σ' : St} {M : Tag → Prop} {D : List V} (H : Ctx tg σ w C fs P) (F : FrT tg M σ σ') (hM : ∀ i, M (.fix i) → i = 11) (h11 : σ'.get 11 = some (.list D)) : Ctx tg σ' w D fs P := by
  have k : ∀ i, i < 66 → i ≠ 14 → i ≠ 11 → (σ.get i).isSome = true → σ'.get i = σ.get i := fun i h1 h2 h3 h4 => F.g i h4 (by rw [H.tgF i h1 h2]; exact fun z => h3 (hM i z))
  refine ⟨?_, h11, ?_, ?_, fun f hf => ?_, H.tgF⟩
  · rw [k 9 (by omega) (by omega) (by omega) (by rw [H.area]; rfl)]; exact H.area
  · rw [k 12 (by omega) (by omega) (by omega) (by rw [H.shapes]; rfl)]; exact H.shapes
  · rw [k 13 (by omega) (by omega) (by omega) (by rw [H.procs]; rfl)]; exact H.procs
  · have z := H.sym f hf
    obtain ⟨fu, hfu, _⟩ := z.fu
    obtain ⟨tx, htx, _⟩ := z.tx
    exact z.keep (k 3 (by omega) (by omega) (by omega) (by rw [z.i]; rfl)) (k 4 (by omega) (by omega) (by omega) (by rw [htx]; rfl)) (k 6 (by omega) (by omega) (by omega) (by rw [hfu]; rfl))
end
end
section
theorem codeR_len {ar : Int} (ha : 0 ≤ ar) (ns : List Int) (e : Int) : (codeR ar ns e).length ≤ 4 * ns.length + 1 := by
  have B := block_ok ha e ns
  rw [← B.rows, List.length_map]
  exact Nat.le_trans (List.length_filter_le ..) B.len
theorem Upd.P {d : List Int} {f : Int} {p p' : PEn} (h : Upd d f p p') : p'.P = p.P := by
  rcases h with ⟨rfl, _⟩ | ⟨_, _, _, rfl⟩ <;> rfl
theorem Upd.cs {d : List Int} {f : Int} {p p' : PEn} (h : Upd d f p p') : p'.cs = p.cs := by
  rcases h with ⟨rfl, _⟩ | ⟨_, _, _, rfl⟩ <;> rfl
theorem Ctx.area' {σ σ' : St} {tg : Tg} {w w' : Nat} {C : List V} {fs : List Int} {P : Int → Nat} {M : Tag → Prop} (H : Ctx tg σ w C fs P) (F : FrT tg M σ σ') (hM : ∀ i, M (.fix i) → i = 9) (h9 : σ'.get 9 = some (areaO w')) : Ctx tg σ' w' C fs P := by
  have k : ∀ i, i < 66 → i ≠ 14 → i ≠ 9 → (σ.get i).isSome = true → σ'.get i = σ.get i := fun i h1 h2 h3 h4 => F.g i h4 (by rw [H.tgF i h1 h2]; exact fun z => h3 (hM i z))
  refine ⟨h9, ?_, ?_, ?_, fun f hf => ?_, H.tgF⟩
  · rw [k 11 (by omega) (by omega) (by omega) (by rw [H.code]; rfl)]; exact H.code
  · rw [k 12 (by omega) (by omega) (by omega) (by rw [H.shapes]; rfl)]; exact H.shapes
  · rw [k 13 (by omega) (by omega) (by omega) (by rw [H.procs]; rfl)]; exact H.procs
  · have z := H.sym f hf
    obtain ⟨fu, hfu, _⟩ := z.fu
    obtain ⟨tx, htx, _⟩ := z.tx
    exact z.keep (k 3 (by omega) (by omega) (by omega) (by rw [z.i]; rfl)) (k 4 (by omega) (by omega) (by omega) (by rw [htx]; rfl)) (k 6 (by omega) (by omega) (by omega) (by rw [hfu]; rfl))
theorem upd_P {p : Int → PEn} {f : Int} {x : PEn} (h : x.P = (p f).P) : (fun g => (upd p f x g).P) = fun g => (p g).P := by
  funext g
  by_cases e : g = f
  · rw [e, upd_same, h]
  · rw [upd_ne e]
theorem codeRow_mem {C : List V} {l : List Rw} : ∀ r ∈ C ++ l.map Rw.v, r ∈ C ∨ ∃ x, r = Rw.v x := fun r h => by
  rcases List.mem_append.mp h with h | h
  · exact .inl h
  · obtain ⟨x, _, rfl⟩ := List.mem_map.mp h
    exact .inr ⟨x, rfl⟩
theorem Upd.snoc {d : List Int} {f g : Int} {p p' : PEn} (h : Upd d g p p') (hk : g = f → p'.pend = false) : Upd (d ++ [f]) g p p' := by
  rcases h with ⟨rfl, h⟩ | ⟨h1, h2, h3⟩
  · refine .inl ⟨rfl, fun z => ?_⟩
    rcases List.mem_append.mp z.2 with z2 | z2
    · exact h ⟨z.1, z2⟩
    · rw [hk (List.mem_singleton.mp z2)] at z; cases z.1
  · exact .inr ⟨h1, List.mem_append_left _ h2, h3⟩
section
variable {Γ : Env'} {σ : St} {Q X : V → St → Prop} {tg : Tg} {w : Nat} {C : List V} {fs : List Int} {p : Int → PEn}
theorem sp_linkpend {N : Nat} {wl : List Int} (G : Ok 10 Γ) (H : Ctx tg σ w C fs fun f => (p f).P) (hfs : ∀ f ∈ fs, freeF f) (hw : σ.get w = some (.list (toInts wl))) (tw : tg w = .wait) (hwl : ∀ f ∈ wl, f ∈ fs) (hP : ∀ f ∈ fs, PAt tg σ C f (p f))
    (hN : ∀ f ∈ fs, (p f).cs.length ≤ N) (hl : wl.length < 1000) (hC : C.length + (4 * N + 1) * wl.length < 100000)
    (q : ∀ σ' (p' : Int → PEn) C', Ctx tg σ' σ.len C' fs (fun f => (p' f).P) → FrT tg (fun t => t = .fix 9 ∨ t = .fix 11 ∨ ∃ f, t = .own f 0) σ σ' → (∀ f ∈ fs, PAt tg σ' C' f (p' f) ∧ Upd wl f (p f) (p' f)) → C'.length ≤ C.length + (4 * N + 1) * wl.length → (∃ X, C' = C ++ X) → σ'.get σ.len = some (.list []) → σ.len < σ'.len →
      (∀ r ∈ C', r ∈ C ∨ ∃ x, r = Rw.v x) → Q .none σ') : Γ.fn 547 [.obj 9] σ Q X := by
  refine G.run fun Γ G => ⟨rfl, ?_⟩
  have h9 := H.area
  unfold areaO at h9
  have t9 := H.tgF 9 (by omega) (by omega)
  have t11 := H.tgF 11 (by omega) (by omega)
  have w9 : 9 ≠ w := fun e => by rw [← e, t9] at tw; cases tw
  wtm_at "go"
  refine ⟨by simp only [big, toInts, List.length_map]; omega, ?_⟩
  have F₀ : Fr1 9 σ ((σ.add (.list [])).put 9 (areaO σ.len)) := ⟨fun j hj hne => by wtm_at "st", fun j hj hne => by wtm_at "st"⟩
  have T₀ : FrT tg (fun t => t = .fix 9) σ ((σ.add (.list [])).put 9 (areaO σ.len)) := F₀.tag t9
  have C₀ : Ctx tg ((σ.add (.list [])).put 9 (areaO σ.len)) σ.len C fs fun f => (p f).P := H.area' T₀ (fun i h => by cases h; rfl) (by wtm_at "st")
  have n9 : 9 ≠ σ.len := by have := St.get_lt H.area; omega
  have l₀ : ((σ.add (.list [])).put 9 (areaO σ.len)).get σ.len = some (.list []) := by wtm_at "st"
  have len₀ : ((σ.add (.list [])).put 9 (areaO σ.len)).len = σ.len + 1 := by rw [St.len_put, St.len_add]
  have P₀ : ∀ f ∈ fs, PAt tg ((σ.add (.list [])).put 9 (areaO σ.len)) C f (p f) := fun f hf => (hP f hf).keep T₀ (fun i ζ h => by cases h) (fun h => by cases h) ⟨[], by simp⟩ fun ζ ζ => rfl
  show forLoop _ _ _ _ _ _ ((σ.add (.list [])).put 9 (areaO σ.len)) _
  have v₀ : srcVer ((σ.add (O.list [])).put 9 (O.inst 4 (lput 27 (V.obj σ.len) [(19, V.obj 10), (20, V.int 0), (21, V.int 0), (22, V.obj 3), (23, V.obj 8), (24, V.obj 11), (25, V.obj 12), (26, V.obj 13), (27, V.obj w)]))) (V.obj w) = srcVer ((σ.add (.list [])).put 9 (areaO σ.len)) (V.obj w) := rfl
  rw [v₀]
  have hw₀ : ((σ.add (.list [])).put 9 (areaO σ.len)).get w = some (.list (toInts wl)) := by rw [F₀.g w (by rw [hw]; rfl) w9]; exact hw
  generalize hτ : (σ.add (.list [])).put 9 (areaO σ.len) = τ at F₀ T₀ C₀ l₀ len₀ P₀ hw₀ ⊢
  refine for_map (l := wl) V.int (fun d ℓ σ' => ℓ 0 = some (.obj 9) ∧ ∃ (p' : Int → PEn) (C' : List V), Ctx tg σ' σ.len C' fs (fun f => (p' f).P) ∧ FrT tg (fun t => t = .fix 11 ∨ ∃ f, t = .own f 0) τ σ' ∧ (∀ f ∈ fs, PAt tg σ' C' f (p' f) ∧ Upd d f (p f) (p' f)) ∧ C'.length ≤ C.length + (4 * N + 1) * d.length ∧
    (∃ X, C' = C ++ X) ∧ σ'.get σ.len = some (.list []) ∧ ∀ r ∈ C', r ∈ C ∨ ∃ x, r = Rw.v x) ?_ ?_ ?_ ?_
  · exact ⟨rfl, p, C, C₀, FrT.refl, fun f hf => ⟨P₀ f hf, .inl ⟨rfl, fun h => by cases h.2⟩⟩, by simp, ⟨[], by simp⟩, l₀, fun r h => .inl h⟩
  · rintro d ℓ σ' ⟨_, p', C', _, T, _⟩
    exact T.v w (by rw [hw₀]; rfl) (by rw [tw]; simp)
  · rintro d f r ℓ σ' K e ⟨h0, p', C', c₁, T₁, hp₁, hl₁, ⟨Y, hY⟩, hg₁, hr₁⟩ k
    obtain ⟨ℓ, rfl⟩ := Has.ex (l := [(0, .obj 9)]) ⟨h0, trivial⟩
    have hf : f ∈ fs := hwl f (by rw [e]; simp)
    obtain ⟨hpf, huf⟩ := hp₁ f hf
    have hd13 := c₁.procs
    have hdg := (dget_E (base := PF) (fs := fs) (P := fun f => (p' f).P) (off_PF (hfs f hf))).1 hf
    have hdf := dfit_E (fs := fs) (P := fun f => (p' f).P) (off_PF (hfs f hf))
    have h9' := c₁.area
    unfold areaO at h9'
    have hPo := hpf.P
    unfold PEn.o procO at hPo
    have hdl : d.length < wl.length := by rw [e]; simp
    have hmul : (4 * N + 1) * d.length + (4 * N + 1) ≤ (4 * N + 1) * wl.length := by
      have := Nat.mul_le_mul_left (4 * N + 1) hdl
      rw [Nat.mul_succ] at this; exact this
    cases hpe : (p' f).pend with
    | false =>
      rw [hpe] at hPo
      wtm_at "go"
      refine k _ _ ⟨rfl, p', C', c₁, T₁, fun g hg => ⟨(hp₁ g hg).1, (hp₁ g hg).2.snoc fun e => by rw [e]; exact hpe⟩, ?_, ⟨Y, hY⟩, hg₁, hr₁⟩
      rw [List.length_append, List.length_singleton, Nat.mul_succ]; omega
    | true =>
      have hC' : C'.length < 100000 := by omega
      rw [hpe] at hPo
      wtm_at "go"
      refine sp_linkE (G.le (by omega)) c₁ (hfs f hf) hpf hC' fun σ₂ LK => ?_
      have hpf' : p' f = p f := by
        rcases huf with ⟨h, _⟩ | ⟨_, _, _, h⟩
        · exact h
        · rw [h] at hpe; cases hpe
      have hlen := codeR_len (arOf_nn f) ((p' f).cs.map (·.n)) C'.length
      rw [List.length_map, huf.cs] at hlen
      have hNf := hN f hf
      refine k _ _ ⟨rfl, upd p' f ((p' f).linked C'.length), C' ++ (codeR (arOf f) ((p' f).cs.map (·.n)) C'.length).map Rw.v, ?_, T₁.trans (LK.F'.mono fun t h => ?_), fun g hg => ?_, ?_, ⟨Y ++ (codeR (arOf f) ((p' f).cs.map (·.n)) C'.length).map Rw.v, ?_⟩, ?_, ?_⟩
      · rw [upd_P (show ((p' f).linked C'.length).P = (p' f).P from rfl)]
        exact c₁.upd LK.F' (fun i h => by rcases h with h | h <;> cases h; rfl) LK.code
      · exact h.imp id fun h => ⟨f, h⟩
      · by_cases eg : g = f
        · subst eg
          rw [upd_same]
          refine ⟨LK.p, .inr ⟨by rw [← hpf']; exact hpe, by simp, C'.length, by rw [hpf']⟩⟩
        · rw [upd_ne eg]
          obtain ⟨h1, h2⟩ := hp₁ g hg
          refine ⟨h1.keep LK.F' (fun i ζ h => ?_) (fun h => by rcases h with h | h <;> cases h) ⟨_, rfl⟩ fun ζ ζ => rfl, h2.snoc fun e => absurd e eg⟩
          rcases h with h | h
          · cases h
          · cases h; exact eg rfl
      · rw [List.length_append, List.length_map, List.length_append, List.length_singleton, Nat.mul_succ]
        rw [huf.cs]
        omega
      · rw [hY, List.append_assoc]
      · have hne : (11 : Nat) ≠ σ.len := by have := St.get_lt H.code; omega
        rw [LK.F.g _ (by rw [hg₁]; rfl) hne]
        · exact hg₁
        · intro e
          have h5 := hP f hf
          have : (p' f).P < σ.len := by rw [hpf']; exact St.get_lt h5.P
          omega
      · intro r hr
        rcases codeRow_mem r hr with hr | hr
        · exact hr₁ r hr
        · exact .inr hr
  · rintro ℓ σ' ⟨h0, p', C', c₁, T₁, hp₁, hl₁, hY, hg₁, hr₁⟩
    refine q σ' p' C' c₁ ((T₀.mono fun t h => .inl h).trans (T₁.mono fun t h => .inr h)) hp₁ hl₁ hY hg₁ ?_ hr₁
    exact St.get_lt hg₁
end
end
section
noncomputable def fxE (f : Int) : Int := if f = 18 then 3 else if 24 ≤ f ∧ f < 32 then f - 11 else -1
noncomputable def fxK (f : Int) : Str := if f = 32 then "builtin" else "control"
noncomputable def FixAt (σ : St) : Prop := ∀ x ∈ PFl, σ.get x.2 = some (procO x.1 (fxK x.1) (fxE x.1) (x.2 + 1) (x.2 + 2) false false false)
theorem src_dict {σ : St} {i : Nat} {es : List (V × V)} (h : σ.get i = some (.dict es)) (hk : es.all (fun e => keyKind e.1 == 1) = true) : srcItems σ (.obj i) = some (es.map (·.1)) := by
  exact Option.bind_eq_some_iff.mpr ⟨_, h, if_pos hk⟩
theorem E_all {base : List (V × V)} {fs : List Int} {P : Int → Nat} (hb : base.all (fun e => keyKind e.1 == 1) = true) : (E base fs P).all (fun e => keyKind e.1 == 1) = true := by
  unfold E
  rw [List.all_append, hb, List.all_map]
  simp [keyKind]
theorem PF_all : PF.all (fun e => keyKind e.1 == 1) = true := by rfl
theorem PF_keys {fs : List Int} {P : Int → Nat} : (E PF fs P).map (·.1) = (PFl.map Prod.fst ++ fs).map V.int := by
  unfold E PF
  rw [List.map_append, List.map_append, List.map_map, List.map_map, List.map_map]
  rfl
set_option tactic.hygienic true in
theorem dget_left : ∀ {a b : List (V × V)} {k v : V}, dget k a = some v → dget k (a ++ b) = some v
  | [], _, _, _, h => by cases h
  | (x, u) :: a, b, k, v, h => by
    show (if eqKey x k then _ else _) = _
    have h : (if eqKey x k then some u else dget k a) = some v := h
    split
    · rename_i e; rw [if_pos e] at h; exact h
    · rename_i e; rw [if_neg e] at h; exact dget_left h
theorem dget_PF {x : Int × Nat} (hx : x ∈ PFl) {fs : List Int} {P : Int → Nat} : dget (.int x.1) (E PF fs P) = some (.obj x.2) := by
  refine dget_left ?_
  simp only [PFl, List.mem_cons, List.not_mem_nil, or_false] at hx
  rcases hx with h | h | h | h | h | h | h | h | h | h | h | h | h | h | h | h <;> (subst h; rfl)
theorem PFl_lt : ∀ x ∈ PFl, x.1 < 33 := by decide
theorem free_ge {f : Int} (h : freeF f) : ¬ f < 33 := by rcases h with rfl | rfl | rfl <;> omega
noncomputable def rowOf (f : Int) : Row3 := ⟨txOf f, arOf f, f⟩
noncomputable def rowsOf (fs : List Int) (mk : Int → Nat) : List Row3 := (fs.filter fun f => mk f == 0).map rowOf
theorem rows3_map (rs : List Row3) : rows3 (rs.map row3V) = some rs := by
  induction rs with
  | nil => rfl
  | cons r rs ih =>
    show ((some r).bind fun x => (rows3 (rs.map row3V)).map fun l => x :: l) = _
    rw [ih]; rfl
section
variable {Γ : Env'} {σ : St} {Q X : V → St → Prop} {tg : Tg} {w : Nat} {C : List V} {fs : List Int} {p : Int → PEn}
theorem FixAt.keep {σ σ' : St} (h : FixAt σ) (k : ∀ j, 15 ≤ j → j ≤ 60 → (σ.get j).isSome = true → σ'.get j = σ.get j) : FixAt σ' := fun x hx => by
  have hb : ∀ x ∈ PFl, 15 ≤ x.2 ∧ x.2 ≤ 60 := by decide
  have := hb x hx
  rw [k x.2 this.1 this.2 (by rw [h x hx]; rfl)]; exact h x hx
theorem fxK_or (f : Int) : fxK f = "builtin" ∨ fxK f = "control" := by unfold fxK; split <;> simp
theorem sp_userf (G : Ok 3 Γ) (H : Ctx tg σ w C fs fun f => (p f).P) (hfix : FixAt σ) (hfs : ∀ f ∈ fs, freeF f) (hP : ∀ f ∈ fs, PAt tg σ C f (p f)) (hlen : fs.length < 40)
    (q : ∀ σ' o, Fr σ σ' → σ.len ≤ o → σ'.get o = some (.list ((sortRows (rowsOf fs fun f => (p f).mark)).map fun r => V.int r.b)) → Q (.obj o) σ') : Γ.fn 553 [.obj 9] σ Q X := by
  refine G.run fun Γ G => ⟨rfl, ?_⟩
  have h9 := H.area
  unfold areaO at h9
  have h13 := H.procs
  have h14 : (σ.add (.list [])).get 13 = some (.dict (E PF fs fun f => (p f).P)) := by wtm_at "st"
  wtm_at "one"
  refine Op.mk ?_
  rw [src_dict h14 (E_all PF_all), PF_keys]
  have hlen0 : PFl.length = 16 := rfl
  have hne13 : σ.len ≠ 13 := by have := St.get_lt h13; omega
  generalize hKs : PFl.map Prod.fst ++ fs = Ks
  have hKl : Ks.length < 60 := by rw [← hKs, List.length_append, List.length_map]; omega
  refine ⟨by simp only [big, List.length_map]; omega, ?_⟩
  refine for_map (l := Ks) V.int (fun d ℓ σ' => Has ℓ [(0, .obj 9), (1, .obj σ.len)] ∧ Fr σ σ' ∧ σ'.get σ.len = some (.list ((d.filter fun f => !decide (f < 33) && (p f).mark == 0).map fun f => row3V (rowOf f)))) ?_ ?_ ?_ ?_
  · exact ⟨⟨rfl, rfl, trivial⟩, ⟨fun j hj => by wtm_at "st", fun j hj => by wtm_at "st"⟩, by wtm_at "st" <;> rfl⟩
  · rintro d ℓ σ' ⟨_, ⟨f1, f1'⟩, _⟩
    simp only [srcVer]
    wtm_at "st"
  · rintro d f r ℓ σ' K e ⟨h0, ⟨f1, f1'⟩, h1⟩ k
    obtain ⟨ℓ, rfl⟩ := h0.ex
    have hd : ((d.filter fun f => !decide (f < 33) && (p f).mark == 0).map fun f => row3V (rowOf f)).length < 100 := by
      rw [List.length_map]
      have := List.length_filter_le (fun f => !decide (f < 33) && (p f).mark == 0) d
      have := congrArg List.length e
      simp at this; omega
    have hm : f ∈ PFl.map Prod.fst ++ fs := by rw [hKs, e]; simp
    rcases List.mem_append.mp hm with hm | hm
    · obtain ⟨x, hx, rfl⟩ := List.mem_map.mp hm
      have hdg := dget_PF hx (fs := fs) (P := fun f => (p f).P)
      have hdf : dfit (.int x.1) (E PF fs fun f => (p f).P) := by
        refine ⟨Nat.succ_ne_zero _, fun e he => ?_⟩
        have := List.all_eq_true.mp (E_all PF_all) e he
        simpa [keyKind] using this
      have hx' := hfix x hx
      have hx2 := hx'
      unfold procO at hx2
      have hdec : (!decide (x.1 < 33) && (p x.1).mark == 0) = false := by rw [decide_eq_true (PFl_lt x hx)]; rfl
      wtm_at "go"
      refine sp_isusers2 (G.le (by omega)) (by wtm_at "st" <;> rfl) (fxK_or _) ?_
      refine k _ _ ⟨⟨rfl, rfl, trivial⟩, ⟨f1, f1'⟩, ?_⟩
      rw [List.filter_append, List.filter_cons, hdec]
      simpa using h1
    · have hff := hfs f hm
      have hdg := (dget_E (base := PF) (fs := fs) (P := fun f => (p f).P) (off_PF hff)).1 hm
      have hdf := dfit_E (fs := fs) (P := fun f => (p f).P) (off_PF hff)
      have hpf := hP f hm
      have hx := hpf.P
      have hx2 := hx
      unfold PEn.o procO at hx2
      have hdec : (!decide (f < 33) && (p f).mark == 0) = ((p f).mark == 0) := by rw [decide_eq_false (free_ge hff)]; rfl
      have hsym := (H.sym f hff).keep (f1 3 (by rw [(H.sym f hff).i]; rfl)) (f1 4 (by obtain ⟨_, h, _⟩ := (H.sym f hff).tx; rw [h]; rfl)) (f1 6 (by obtain ⟨_, h, _⟩ := (H.sym f hff).fu; rw [h]; rfl))
      have hsi := hsym.i
      unfold symO at hsi
      have hmk : (!((p f).mark == 1 || (p f).mark == 2)) = ((p f).mark == 0) := by
        have := hpf.mrk
        generalize (p f).mark = m at this ⊢
        match m, this with
        | 0, _ => rfl
        | 1, _ => rfl
        | 2, _ => rfl
      wtm_at "go"
      refine sp_isusers (G.le (by omega)) (by wtm_at "st" <;> rfl) hpf.kd ?_
      rw [hmk]
      cases hm0 : (p f).mark == 0 with
      | false =>
        refine k _ _ ⟨⟨rfl, rfl, trivial⟩, ⟨f1, f1'⟩, ?_⟩
        rw [List.filter_append, List.filter_cons, hdec, hm0]
        simpa using h1
      | true =>
        wtm_at "go"
        refine hsym.name (G.le (by omega)) ?_
        refine hsym.text (G.le (by omega)) ?_
        wtm_at "go"
        refine hsym.arity (G.le (by omega)) ?_
        wtm_at "go"
        refine k _ _ ⟨⟨rfl, rfl, trivial⟩, ⟨fun j hj => by wtm_at "st", fun j hj => by wtm_at "st"⟩, ?_⟩
        wtm_at "st"
        rw [List.filter_append, List.filter_cons, hdec, hm0]
        simp [rowOf, row3V]
  · rintro ℓ σ' ⟨h0, ⟨f1, f1'⟩, h1⟩
    obtain ⟨ℓ, rfl⟩ := h0.ex
    have hfil : (Ks.filter fun f => !decide (f < 33) && (p f).mark == 0) = fs.filter fun f => (p f).mark == 0 := by
      rw [← hKs, List.filter_append]
      have e1 : ((PFl.map Prod.fst).filter fun f => !decide (f < 33) && (p f).mark == 0) = [] := by
        rw [List.filter_eq_nil_iff]
        intro a ha
        obtain ⟨x, hx, rfl⟩ := List.mem_map.mp ha
        rw [decide_eq_true (PFl_lt x hx)]; simp
      rw [e1, List.nil_append]
      refine List.filter_congr fun f hf => ?_
      rw [decide_eq_false (free_ge (hfs f hf))]; rfl
    rw [hfil] at h1
    have h2 : σ'.get σ.len = some (.list ((rowsOf fs fun f => (p f).mark).map row3V)) := by rw [h1, rowsOf, List.map_map]; rfl
    generalize hrs : (rowsOf fs fun f => (p f).mark) = rs at h2 q
    have hrl : rs.length < 60 := by
      rw [← hrs, rowsOf, List.length_map]
      have := List.length_filter_le (fun f => (p f).mark == 0) fs
      omega
    have hr3 := rows3_map rs
    clear h1
    wtm_at "one"
    rw [hr3]
    wtm_at "one"
    wtm_at "one"
    have hsl : (Γ.srt rs).length = rs.length := by rw [G.srt, sortRows_len]
    have hlt := St.get_lt h2
    refine ⟨by simp only [big, List.length_map]; omega, ?_⟩
    refine comp_map (l := Γ.srt rs) row3V (fun d acc τ => acc = d.map (fun r => V.int r.b) ∧ τ = σ'.add (.list ((Γ.srt rs).map row3V))) ⟨rfl, rfl⟩ ?_ ?_ ?_
    · rintro d acc τ ⟨_, rfl⟩; rfl
    · rintro d a r acc τ K e ⟨rfl, rfl⟩ k
      wtm_at "go"
      exact k _ _ ⟨by simp, rfl⟩
    · rintro acc τ ⟨rfl, rfl⟩
      refine q _ _ ⟨fun j hj => by wtm_at "st", fun j hj => by wtm_at "st"⟩ (by simp only [St.len_add]; omega) ?_
      rw [St.ga_len, G.srt]
end
end
section
noncomputable def anOf (l : List Str) : List (V × V) := l.zipIdx.map fun x => (V.str x.1, V.int x.2)
noncomputable def fnOf (l : List (Int × Int)) : List (V × V) := l.zipIdx.map fun x => (V.tup [.int x.1.1, .int x.1.2], V.int x.2)
noncomputable def fuV (x : Int × Int) : V := .tup [.int x.1, .int x.2]
noncomputable def TX0 : List Str := (["[]", ".", "{}", "-", "+", "*", "/", ",", "|", ";", "->", "\\+", ":-", "?-", "-->", "!", "true", "fail", "false", "call", "=", "^", "error", "", "end_of_file", "system", "$VAR", "catch", "throw"] : List String).map Str.ofString
noncomputable def FU0 : List (Int × Int) := [(1, 2), (7, 2), (9, 2), (10, 2), (11, 1), (12, 2), (12, 1), (13, 1), (14, 2), (2, 1), (20, 2), (21, 2), (3, 1), (3, 2), (4, 2), (6, 2), (22, 2), (26, 1), (27, 3), (28, 1), (15, 0), (16, 0), (17, 0), (18, 0), (19, 1), (19, 2), (19, 3), (19, 4), (19, 5), (19, 6), (19, 7), (19, 8)]
noncomputable def TXl (b : Bool) : List Str := TX0 ++ (["b", "p", "a", "$x"] : List String).map Str.ofString ++ if b then (["modify", "static_procedure", "permission_error"] : List String).map Str.ofString else []
noncomputable def FUl (b : Bool) : List (Int × Int) := FU0 ++ [(29, 1), (30, 1), (30, 0), (31, 3), (32, 1)] ++ if b then [(35, 3)] else []
structure SymL (σ : St) (tx : List Str) (fu : List (Int × Int)) : Prop where
  i : σ.get 3 = some symO
  ltx : σ.get 4 = some (.list (tx.map V.str))
  an : σ.get 5 = some (.dict (anOf tx))
  lfu : σ.get 6 = some (.list (fu.map fuV))
  fn : σ.get 7 = some (.dict (fnOf fu))
noncomputable abbrev Sym (b : Bool) (σ : St) : Prop := SymL σ (TXl b) (FUl b)
theorem SymL.at {σ : St} {tx : List Str} {fu : List (Int × Int)} (H : SymL σ tx fu) {f : Nat} {a : Nat} {ar : Int} {t : Str} (h1 : fu[f]? = some ((a : Int), ar)) (h2 : tx[a]? = some t) (hf : f < 1000) (ha : a < 1000) : FuAt σ f a ar t :=
  ⟨H.i, ⟨_, H.lfu, by omega, by rw [List.getElem?_map, Int.toNat_natCast, h1]; rfl⟩, ⟨_, H.ltx, by omega, by rw [List.getElem?_map, Int.toNat_natCast, h2]; rfl⟩⟩
theorem Sym.free {b : Bool} {σ : St} (H : Sym b σ) {f : Int} (hf : freeF f) : FuAt σ f (atomOf f) (arOf f) (txOf f) := by
  rcases hf with rfl | rfl | rfl
  · exact H.at (f := 33) (a := 30) (ar := 1) (t := "p") (by cases b <;> rfl) (by cases b <;> rfl) (by omega) (by omega)
  · exact H.at (f := 34) (a := 30) (ar := 0) (t := "p") (by cases b <;> rfl) (by cases b <;> rfl) (by omega) (by omega)
  · exact H.at (f := 35) (a := 31) (ar := 3) (t := "a") (by cases b <;> rfl) (by cases b <;> rfl) (by omega) (by omega)

structure Rep (tg : Tg) (σ : St) (cells : List Int) (k : Nat) (b : Bool) (C : List V) (w : Nat) (wl : List Int) (num : Int) (fs : List Int) (p : Int → PEn) (r : Int → REn) : Prop where
  hand : HandAt σ cells
  sym : Sym b σ
  ctx : Ctx tg σ w C fs fun f => (p f).P
  okC : ∀ x ∈ C, okV 60 x = true
  lenC : C.length ≤ 21 + 3400 * k
  fixd : FixAt σ
  wait : σ.get w = some (.list (toInts wl))
  tw : tg w = .wait
  lenW : wl.length ≤ k
  inW : ∀ f ∈ wl, f ∈ fs
  pendW : ∀ f ∈ fs, (p f).pend = true → f ∈ wl
  known : σ.get 65 = some (.dict (E [] fs fun f => (r f).R))
  freeL : σ.get 63 = some (.list [.int 33, .int 34, .int 35])
  fixL : σ.get 64 = some (.list [.int 32, .int 36, .int 1, .int 20, .int 18, .int 31])
  nd : fs.Nodup
  fr : ∀ f ∈ fs, freeF f
  hP : ∀ f ∈ fs, PAt tg σ C f (p f)
  hR : ∀ f ∈ fs, RAt tg σ f (r f)
  hM : ∀ f ∈ fs, Mat (p f) (r f)
  num0 : 0 ≤ num
  num3 : num ≤ 3 * k
  cnt : ∀ f ∈ fs, (p f).cs.length ≤ num
  len : 66 ≤ σ.len
  zero : (σ.get 0).isSome = true ∧ σ.ver 0 = 0
section
variable {tg tg' : Tg} {σ σ' : St} {cells : List Int} {k : Nat} {b : Bool} {C C' : List V} {w : Nat} {wl wl' : List Int} {num num' : Int} {fs fs' : List Int} {p : Int → PEn} {r : Int → REn} {f : Int} {pf : PEn} {rf : REn} {M : Tag → Prop}
theorem Rep.fix (H : Rep tg σ cells k b C w wl num fs p r) (F : FrT tg M σ σ') {i : Nat} (h1 : i < 66) (h2 : i ≠ 14) (h3 : ¬ M (.fix i)) {o : O} (e : σ.get i = some o) : σ'.get i = some o := by
  rw [F.g i (by rw [e]; rfl) (by rw [H.ctx.tgF i h1 h2]; exact h3)]; exact e
theorem SymL.keep {tx : List Str} {fu : List (Int × Int)} (H : SymL σ tx fu) (h : ∀ i, 3 ≤ i → i ≤ 7 → (σ.get i).isSome = true → σ'.get i = σ.get i) : SymL σ' tx fu :=
  ⟨by rw [h 3 (by omega) (by omega) (by rw [H.i]; rfl)]; exact H.i, by rw [h 4 (by omega) (by omega) (by rw [H.ltx]; rfl)]; exact H.ltx, by rw [h 5 (by omega) (by omega) (by rw [H.an]; rfl)]; exact H.an,
    by rw [h 6 (by omega) (by omega) (by rw [H.lfu]; rfl)]; exact H.lfu, by rw [h 7 (by omega) (by omega) (by rw [H.fn]; rfl)]; exact H.fn⟩
theorem HandAt.keep (H : HandAt σ cells) (h1 : (σ.get 1).isSome = true → σ'.get 1 = σ.get 1) (h2 : (σ.get 2).isSome = true → σ'.get 2 = σ.get 2) : HandAt σ' cells := by
  obtain ⟨a, x, y, z, e, h⟩ := H
  exact ⟨by rw [h1 (by rw [a]; rfl)]; exact a, x, y, z, by rw [h2 (by rw [e]; rfl)]; exact e, h⟩
theorem nodup_len {α : Type} [BEq α] [LawfulBEq α] : ∀ {l m : List α}, l.Nodup → (∀ x ∈ l, x ∈ m) → l.length ≤ m.length
  | [], _, _, _ => Nat.zero_le _
  | x :: l, m, hn, h => by
    rw [List.nodup_cons] at hn
    have hx := h x (.head _)
    have := nodup_len (l := l) (m := m.erase x) hn.2 fun y hy => (List.mem_erase_of_ne (fun e => hn.1 (by rw [← e]; exact hy))).mpr (h y (.tail _ hy))
    rw [List.length_erase_of_mem hx] at this
    have := List.length_pos_of_mem hx
    simp only [List.length_cons]; omega
theorem free_len : ∀ {fs : List Int}, fs.Nodup → (∀ f ∈ fs, freeF f) → fs.length ≤ 3 := by
  intro fs hn hf
  exact nodup_len (m := [33, 34, 35]) hn fun f h => by rcases hf f h with rfl | rfl | rfl <;> simp
/- one entry changes -/
theorem Rep.stepG {k' : Nat} (H : Rep tg σ cells k b C w wl num fs p r) (F : FrT tg M σ σ') (hM : ∀ t, M t → t = .fix 11 ∨ t = .fix 13 ∨ t = .fix 65 ∨ t = .wait ∨ ∃ i, t = .own f i) (ht : ∀ j, (σ.get j).isSome = true → tg' j = tg j)
    (hfs' : fs' = fs ∧ f ∈ fs ∨ fs' = fs ++ [f] ∧ f ∉ fs) (hf : freeF f) (h11 : σ'.get 11 = some (.list C')) (hC' : ∃ X, C' = C ++ X) (okC' : ∀ x ∈ C', x ∈ C ∨ ∃ y, x = Rw.v y) (lenC' : C'.length ≤ 21 + 3400 * k')
    (h13 : σ'.get 13 = some (.dict (E PF fs' fun g => (upd p f pf g).P))) (h65 : σ'.get 65 = some (.dict (E [] fs' fun g => (upd r f rf g).R)))
    (hw : σ'.get w = some (.list (toInts wl'))) (hwl' : wl' = wl ∨ wl' = wl ++ [f]) (lenW' : wl'.length ≤ k') (hpw : pf.pend = true → f ∈ wl')
    (hp : PAt tg' σ' C' f pf) (hr : RAt tg' σ' f rf) (hm : Mat pf rf) (hn1 : num ≤ num') (hn2 : num' ≤ 3 * k') (hcnt : pf.cs.length ≤ num') :
    Rep tg' σ' cells k' b C' w wl' num' fs' (upd p f pf) (upd r f rf) := by
  have nM : ∀ i, i ≠ 11 → i ≠ 13 → i ≠ 65 → ¬ M (.fix i) := fun i a b c z => by
    rcases hM _ z with h | h | h | h | ⟨_, h⟩ <;> cases h
    · exact a rfl
    · exact b rfl
    · exact c rfl
  have kp : ∀ i, i < 66 → i ≠ 14 → i ≠ 11 → i ≠ 13 → i ≠ 65 → (σ.get i).isSome = true → σ'.get i = σ.get i := fun i h1 h2 a b c h => F.g i h (by rw [H.ctx.tgF i h1 h2]; exact nM i a b c)
  have wlive : (σ.get w).isSome = true := by rw [H.wait]; rfl
  have hcs : ∀ g, g ∈ fs' → g = f ∨ (g ∈ fs ∧ g ≠ f) := fun g hg => by
    by_cases e : g = f
    · exact .inl e
    · rcases hfs' with ⟨rfl, _⟩ | ⟨rfl, _⟩
      · exact .inr ⟨hg, e⟩
      · rcases List.mem_append.mp hg with h | h
        · exact .inr ⟨h, e⟩
        · exact absurd (List.mem_singleton.mp h) e
  have hsub : ∀ g ∈ fs, g ∈ fs' := fun g hg => by
    rcases hfs' with ⟨rfl, _⟩ | ⟨rfl, _⟩
    · exact hg
    · exact List.mem_append_left _ hg
  have hfm : f ∈ fs' := by
    rcases hfs' with ⟨rfl, h⟩ | ⟨rfl, _⟩
    · exact h
    · simp
  have nO : ∀ g, g ≠ f → ∀ i, ¬ M (.own g i) := fun g e i z => by
    rcases hM _ z with h | h | h | h | ⟨_, h⟩ <;> cases h
    exact e rfl
  have nI : ¬ M .imm := fun z => by rcases hM _ z with h | h | h | h | ⟨_, h⟩ <;> cases h
  have sym' : Sym b σ' := H.sym.keep fun i h1 h2 h => kp i (by omega) (by omega) (by omega) (by omega) (by omega) h
  refine ⟨H.hand.keep (kp 1 (by omega) (by omega) (by omega) (by omega) (by omega)) (kp 2 (by omega) (by omega) (by omega) (by omega) (by omega)), sym', ⟨?_, h11, ?_, h13, fun f hf => sym'.free hf, fun i h1 h2 => ?_⟩, fun x hx => ?_, ?_, ?_, hw, by rw [ht _ wlive]; exact H.tw, ?_, fun g hg => ?_, fun g hg hp' => ?_, h65, ?_, ?_, ?_, fun g hg => ?_, fun g hg => ?_, fun g hg => ?_, fun g hg => ?_, by have := H.num0; omega, hn2, fun g hg => ?_, ?_, ?_⟩
  · rw [kp 9 (by omega) (by omega) (by omega) (by omega) (by omega) (by rw [H.ctx.area]; rfl)]; exact H.ctx.area
  · rw [kp 12 (by omega) (by omega) (by omega) (by omega) (by omega) (by rw [H.ctx.shapes]; rfl)]; exact H.ctx.shapes
  · rw [ht i (by obtain ⟨o, e⟩ := St.get_some (show i < σ.len by have := H.len; omega); rw [e]; rfl)]; exact H.ctx.tgF i h1 h2
  · rcases okC' x hx with h | ⟨y, rfl⟩
    · exact H.okC x h
    · exact okV_row y
  · exact lenC'
  · exact H.fixd.keep fun j h1 h2 h => kp j (by omega) (by omega) (by omega) (by omega) (by omega) h
  · exact lenW'
  · rcases hwl' with rfl | rfl
    · exact hsub g (H.inW g hg)
    · rcases List.mem_append.mp hg with h | h
      · exact hsub g (H.inW g h)
      · rw [List.mem_singleton.mp h]; exact hfm
  · rcases hcs g hg with rfl | ⟨h, e⟩
    · rw [upd_same] at hp'; exact hpw hp'
    · rw [upd_ne e] at hp'
      have := H.pendW g h hp'
      rcases hwl' with rfl | rfl
      · exact this
      · exact List.mem_append_left _ this
  · rw [kp 63 (by omega) (by omega) (by omega) (by omega) (by omega) (by rw [H.freeL]; rfl)]; exact H.freeL
  · rw [kp 64 (by omega) (by omega) (by omega) (by omega) (by omega) (by rw [H.fixL]; rfl)]; exact H.fixL
  · rcases hfs' with ⟨rfl, _⟩ | ⟨rfl, h⟩
    · exact H.nd
    · rw [List.nodup_append]
      exact ⟨H.nd, by simp, fun a ha b hb e => h (by rw [List.mem_singleton.mp hb] at e; rw [← e]; exact ha)⟩
  · rcases hcs g hg with rfl | ⟨h, e⟩
    · exact hf
    · exact H.fr g h
  · rcases hcs g hg with rfl | ⟨h, e⟩
    · rw [upd_same]; exact hp
    · rw [upd_ne e]; exact (H.hP g h).keep F (fun i ζ => nO g e i) nI hC' ht
  · rcases hcs g hg with rfl | ⟨h, e⟩
    · rw [upd_same]; exact hr
    · rw [upd_ne e]; exact (H.hR g h).keep F (fun i ζ => nO g e i) nI ht
  · rcases hcs g hg with rfl | ⟨h, e⟩
    · rw [upd_same, upd_same]; exact hm
    · rw [upd_ne e, upd_ne e]; exact H.hM g h
  · rcases hcs g hg with rfl | ⟨h, e⟩
    · rw [upd_same]; exact hcnt
    · rw [upd_ne e]; have := H.cnt g h; omega
  · exact St.get_lt h65
  · have h0 := H.zero
    have n0 : ¬ M (tg 0) := by rw [H.ctx.tgF 0 (by omega) (by omega)]; exact nM 0 (by omega) (by omega) (by omega)
    exact ⟨by rw [F.g 0 h0.1 n0]; exact h0.1, by rw [F.v 0 h0.1 n0]; exact h0.2⟩
/- one entry changes -/
theorem Rep.step (H : Rep tg σ cells k b C w wl num fs p r) (F : FrT tg M σ σ') (hM : ∀ t, M t → t = .fix 11 ∨ t = .fix 13 ∨ t = .fix 65 ∨ t = .wait ∨ ∃ i, t = .own f i) (ht : ∀ j, (σ.get j).isSome = true → tg' j = tg j)
    (hfs' : fs' = fs ∧ f ∈ fs ∨ fs' = fs ++ [f] ∧ f ∉ fs) (hf : freeF f) (h11 : σ'.get 11 = some (.list C')) (hC' : ∃ X, C' = C ++ X) (okC' : ∀ x ∈ C', x ∈ C ∨ ∃ y, x = Rw.v y) (lenC' : C'.length ≤ C.length + 3400)
    (h13 : σ'.get 13 = some (.dict (E PF fs' fun g => (upd p f pf g).P))) (h65 : σ'.get 65 = some (.dict (E [] fs' fun g => (upd r f rf g).R)))
    (hw : σ'.get w = some (.list (toInts wl'))) (hwl' : wl' = wl ∨ wl' = wl ++ [f]) (hpw : pf.pend = true → f ∈ wl')
    (hp : PAt tg' σ' C' f pf) (hr : RAt tg' σ' f rf) (hm : Mat pf rf) (hn1 : num ≤ num') (hn2 : num' ≤ num + 3) (hcnt : pf.cs.length ≤ num') :
    Rep tg' σ' cells (k + 1) b C' w wl' num' fs' (upd p f pf) (upd r f rf) := by
  have h1 := H.lenC
  have h2 := H.lenW
  have h3 := H.num3
  refine H.stepG F hM ht hfs' hf h11 hC' okC' (by omega) h13 h65 hw hwl' ?_ hpw hp hr hm hn1 (by omega) hcnt
  rcases hwl' with rfl | rfl
  · omega
  · rw [List.length_append, List.length_singleton]; omega
end
end
section
section
variable {tg tg' : Tg} {σ σ' : St} {cells : List Int} {k k' : Nat} {b : Bool} {C C' : List V} {w : Nat} {wl wl' : List Int} {num num' : Int} {fs fs' : List Int} {p : Int → PEn} {r : Int → REn} {f : Int} {pf : PEn} {rf : REn} {M : Tag → Prop}
theorem Rep.keep (H : Rep tg σ cells k b C w wl num fs p r) (F : FrT tg M σ σ') (hM : ∀ t, M t → t = .fix 2) (hh : HandAt σ' cells) (hk : k ≤ k') : Rep tg σ' cells k' b C w wl num fs p r := by
  have nM : ∀ i, i ≠ 2 → ¬ M (.fix i) := fun i a z => by have := hM _ z; cases this; exact a rfl
  have kp : ∀ i, i < 66 → i ≠ 14 → i ≠ 2 → (σ.get i).isSome = true → σ'.get i = σ.get i := fun i h1 h2 a h => F.g i h (by rw [H.ctx.tgF i h1 h2]; exact nM i a)
  have nI : ¬ M .imm := fun z => by have := hM _ z; cases this
  have nO : ∀ g i, ¬ M (.own g i) := fun g i z => by have := hM _ z; cases this
  have nW : ¬ M .wait := fun z => by have := hM _ z; cases this
  have sym' : Sym b σ' := H.sym.keep fun i h1 h2 h => kp i (by omega) (by omega) (by omega) h
  refine ⟨hh, sym', ⟨?_, ?_, ?_, ?_, fun f hf => sym'.free hf, H.ctx.tgF⟩, H.okC, by have := H.lenC; omega, H.fixd.keep fun j h1 h2 h => kp j (by omega) (by omega) (by omega) h, ?_, H.tw, by have := H.lenW; omega, H.inW, H.pendW, ?_, ?_, ?_, H.nd, H.fr, fun g hg => ?_, fun g hg => ?_, H.hM, H.num0, by have := H.num3; omega, H.cnt, ?_, ?_⟩
  · rw [kp 9 (by omega) (by omega) (by omega) (by rw [H.ctx.area]; rfl)]; exact H.ctx.area
  · rw [kp 11 (by omega) (by omega) (by omega) (by rw [H.ctx.code]; rfl)]; exact H.ctx.code
  · rw [kp 12 (by omega) (by omega) (by omega) (by rw [H.ctx.shapes]; rfl)]; exact H.ctx.shapes
  · rw [kp 13 (by omega) (by omega) (by omega) (by rw [H.ctx.procs]; rfl)]; exact H.ctx.procs
  · rw [F.g w (by rw [H.wait]; rfl) (by rw [H.tw]; exact nW)]; exact H.wait
  · rw [kp 65 (by omega) (by omega) (by omega) (by rw [H.known]; rfl)]; exact H.known
  · rw [kp 63 (by omega) (by omega) (by omega) (by rw [H.freeL]; rfl)]; exact H.freeL
  · rw [kp 64 (by omega) (by omega) (by omega) (by rw [H.fixL]; rfl)]; exact H.fixL
  · exact (H.hP g hg).keep F (fun i ζ => nO g i) nI ⟨[], by simp⟩ fun ζ ζ => rfl
  · exact (H.hR g hg).keep F (fun i ζ => nO g i) nI fun ζ ζ => rfl
  · have := St.get_lt (show σ'.get 65 = some _ from (kp 65 (by omega) (by omega) (by omega) (by rw [H.known]; rfl)).trans H.known)
    omega
  · have h0 := H.zero
    have n0 : ¬ M (tg 0) := by rw [H.ctx.tgF 0 (by omega) (by omega)]; exact nM 0 (by omega)
    exact ⟨by rw [F.g 0 h0.1 n0]; exact h0.1, by rw [F.v 0 h0.1 n0]; exact h0.2⟩
theorem Rep.idle (H : Rep tg σ cells k b C w wl num fs p r) (F : Fr σ σ') (hk : k ≤ k') : Rep tg σ' cells k' b C w wl num fs p r :=
  H.keep (M := fun ζ => False) F.tag (fun ζ h => h.elim) (H.hand.keep (fun h => F.g 1 h) fun h => F.g 2 h) hk
end
noncomputable def ISs.nth : ISs → Nat → IS
  | .cons s _, 0 => s
  | .cons _ r, n + 1 => r.nth n
  | .nil, _ => .dead
noncomputable def ISs.from : ISs → Nat → ISs
  | r, 0 => r
  | .cons _ r, n + 1 => r.from n
  | .nil, _ => .nil
noncomputable def IS.forB : IS → ISs
  | .for _ _ b => b
  | _ => .nil
noncomputable def loopB : ISs := (f31.body.nth 9).forB
noncomputable def deedIf : IS := loopB.nth 3
noncomputable def checks : ISs := loopB.from 4
/- the locals that stay -/
noncomputable def L0 (ob : Nat) (num : Int) : List (Nat × V) := [(1, .obj 1), (2, .obj 2), (3, .obj 3), (4, .int 32), (5, .obj 9), (6, .obj 63), (7, .obj 64), (8, .obj 65), (9, .int num), (13, .obj ob)]
section
variable {Γ : Env'} {tg : Tg} {σ : St} {cells : List Int} {k : Nat} {b : Bool} {C C0 : List V} {w ob : Nat} {wl : List Int} {num : Int} {fs : List Int} {p : Int → PEn} {r : Int → REn} {ℓ : Loc} {K : Fl → Loc → St → Prop}
theorem okVs_ints {l : List Int} : okVs 60 (toInts l) = true := okVs_mem fun x hx => by
  obtain ⟨i, _, rfl⟩ := List.mem_map.mp hx
  rfl
theorem checks_ok (G : Ok 11 Γ) (H : Rep tg σ cells k b C w wl num fs p r) (hk : k ≤ 16) (hℓ : Has ℓ (L0 ob num)) (h22 : ℓ 22 = none) (ho : σ.get ob = some (.list C0)) (hC : ∃ X, C = C0 ++ X)
    (q : ∀ ℓ' σ', Fr σ σ' → Has ℓ' (L0 ob num) → ℓ' 22 = none → K .next ℓ' σ') : wSs Γ checks ℓ σ K := by
  obtain ⟨X, hX⟩ := hC
  obtain ⟨ℓ, rfl⟩ := hℓ.ex
  have h22 : ℓ 22 = none := h22
  have h9 := H.ctx.area
  unfold areaO at h9
  have h11 := H.ctx.code
  have hCl : C0.length ≤ C.length := by rw [hX]; simp
  have hlC := H.lenC
  have hlC2 : C.length < 60000 := by omega
  have hok : okVs 60 C0 = true := okVs_mem fun x hx => H.okC x (by rw [hX]; exact List.mem_append_left _ hx)
  have htk : C.take ((C0.length : Int).toNat) = C0 := by rw [hX, Int.toNat_natCast, List.take_left]
  clear hX
  simp only [checks, loopB, f31, ISs.nth, ISs.from, IS.forB]
  wtm_at "go"
  try rw [htk]
  wtm_at "w"
  rw [ne_list_self (l := C0) (by wtm_at "st") (by wtm_at "st") hok]
  have F₁ : Fr σ (σ.add (.list C0)) := ⟨fun j hj => by wtm_at "st", fun j hj => by wtm_at "st"⟩
  generalize σ.add (.list C0) = σ₁ at F₁ ⊢
  clear h9 h11 htk hok
  have H₁ := H.idle F₁ (Nat.le_refl k)
  have h65 := H₁.known
  have hfl := free_len H.nd H.fr
  refine Op.mk ?_
  rw [src_dict h65 (E_all rfl), E_keys]
  refine ⟨by simp only [big, List.length_map]; omega, ?_⟩
  clear h65
  refine for_map (l := fs) V.int (fun d ℓ σ' => Has ℓ (L0 ob num) ∧ ℓ 22 = none ∧ Fr σ₁ σ') ?_ ?_ ?_ ?_
  · exact ⟨⟨rfl, rfl, rfl, rfl, rfl, rfl, rfl, rfl, rfl, rfl, trivial⟩, h22, Fr.refl _⟩
  · rintro d ℓ σ' ⟨_, _, F⟩
    exact F.v 65 (by rw [H₁.known]; rfl)
  · rintro d f r' ℓ σ' K' e ⟨h0, h22', F⟩ kk
    have hf : f ∈ fs := by rw [e]; simp
    clear e
    have H2 := H₁.idle F (Nat.le_refl k)
    have hff := H.fr f hf
    have hsy := H2.ctx.sym f hff
    have hsi := hsy.i
    unfold symO at hsi
    have h9 := H2.ctx.area
    unfold areaO at h9
    have h13 := H2.ctx.procs
    have h11 := H2.ctx.code
    have h65 := H2.known
    have hdg := (dget_E (base := PF) (fs := fs) (P := fun f => (p f).P) (off_PF hff)).1 hf
    have hdf := dfit_E (fs := fs) (P := fun f => (p f).P) (off_PF hff)
    have hdg2 := (dget_E (base := []) (fs := fs) (P := fun f => (r f).R) (f := f) off_nil).1 hf
    have hdf2 := dfit_E (base := []) (fs := fs) (P := fun f => (r f).R) (f := f) off_nil
    have hM := H2.hM f hf
    have hPf := H2.hP f hf
    have hRf := H2.hR f hf
    have hP := hPf.P
    have hR := hRf.R
    unfold PEn.o procO at hP
    rw [← hM.kind, ← hM.pend] at hR
    obtain ⟨ℓ, rfl⟩ := h0.ex
    have h22' : ℓ 22 = none := h22'
    have hlk := hM.lk
    cases hent : (p f).ent with
    | none =>
      rw [hent] at hP hlk
      rw [← hlk] at hR
      simp only [lkV, Option.map_some, Option.map_none, entI] at hR hP
      clear H H₁ H2 hM hPf hRf hlk
      cases hpe : (p f).pend <;> rw [hpe] at hP hR
      all_goals
        wtm_at "go"
        exact kk _ _ ⟨⟨rfl, rfl, rfl, rfl, rfl, rfl, rfl, rfl, rfl, rfl, trivial⟩, h22', F⟩
    | some x =>
      obtain ⟨a, l⟩ := x
      obtain ⟨hled, hl1, ha⟩ := hPf.led a l hent
      rw [hent] at hP hlk
      obtain ⟨hL, _⟩ := hRf.L l hlk.symm
      rw [← hlk] at hR
      simp only [lkV, Option.map_some, Option.map_none, entI] at hR hP
      clear H H₁ H2 hM hPf hRf hlk
      cases hpe : (p f).pend <;> rw [hpe] at hP hR
      all_goals
        wtm_at "go"
        refine hsy.arity (G.le (by omega)) ?_
        refine sp_led (G.le (by omega)) h11 hled ha hl1 fun σ₃ o F₃ ho ho2 => ?_
        obtain ⟨f3, f3'⟩ := F₃
        wtm_at "gw"
        wtm_at "w"
        try rw [ne_list_self (l := toInts l) ho2 (by wtm_at "st") okVs_ints]
        exact kk _ _ ⟨⟨rfl, rfl, rfl, rfl, rfl, rfl, rfl, rfl, rfl, rfl, trivial⟩, h22', F.trans ⟨f3, f3'⟩⟩
  · rintro ℓ σ₂ ⟨h0, h22', F⟩
    have H₂ := H₁.idle F (Nat.le_refl k)
    obtain ⟨ℓ, rfl⟩ := h0.ex
    have h22' : ℓ 22 = none := h22'
    have h65 := H₂.known
    have hsy := H₂.sym.i
    unfold symO at hsy
    have h9 := H₂.ctx.area
    unfold areaO at h9
    refine Op.mk ?_
    rw [src_dict h65 (E_all rfl), E_keys]
    refine ⟨by simp only [big, List.length_map]; omega, ?_⟩
    refine comp_map (l := fs) V.int (fun d acc σ' => acc = (rowsOf d fun f => (p f).mark).map row3V ∧ σ' = σ₂) ⟨rfl, rfl⟩ ?_ ?_ ?_
    · rintro d acc σ' ⟨_, rfl⟩; rfl
    · rintro d f r' acc σ' K' e ⟨rfl, rfl⟩ kk
      have hf : f ∈ fs := by rw [e]; simp
      clear e
      have hff := H.fr f hf
      have hsf := H₂.ctx.sym f hff
      have hdg2 := (dget_E (base := []) (fs := fs) (P := fun f => (r f).R) (f := f) off_nil).1 hf
      have hdf2 := dfit_E (base := []) (fs := fs) (P := fun f => (r f).R) (f := f) off_nil
      have hR := (H₂.hR f hf).R
      have hmk := (H₂.hM f hf).mark
      rw [← hmk] at hR
      clear hmk
      have hrows : ∀ d : List Int, rowsOf (d ++ [f]) (fun f => (p f).mark) = rowsOf d (fun f => (p f).mark) ++ if (p f).mark == 0 then [rowOf f] else [] := fun d => by
        unfold rowsOf
        rw [List.filter_append, List.map_append]
        congr 1
        cases hm : (p f).mark == 0 <;> simp [List.filter, hm]
      have hmr := (H₂.hP f hf).mrk
      wtm_at "go"
      rcases (by omega : (p f).mark = 0 ∨ (p f).mark = 1 ∨ (p f).mark = 2) with hm | hm | hm <;> rw [hm] at hrows ⊢
      · skip
        wtm_at "go"
        refine hsf.name (G.le (by omega)) ?_
        refine hsf.text (G.le (by omega)) ?_
        wtm_at "go"
        refine hsf.arity (G.le (by omega)) ?_
        exact kk _ _ ⟨by rw [hrows]; simp [rowOf, row3V], rfl⟩
      · skip
        exact kk _ _ ⟨by rw [hrows]; simp, rfl⟩
      · skip
        exact kk _ _ ⟨by rw [hrows]; simp, rfl⟩
    · rintro acc σ' ⟨rfl, rfl⟩
      have hrl : (rowsOf fs fun f => (p f).mark).length < 40 := by
        unfold rowsOf
        rw [List.length_map]
        exact Nat.lt_of_le_of_lt (List.length_filter_le _ fs) (by omega)
      have hr3 := rows3_map (rowsOf fs fun f => (p f).mark)
      generalize hrs : (rowsOf fs fun f => (p f).mark) = rs at hrl hr3 ⊢
      have hsl : (Γ.srt rs).length = rs.length := by rw [G.srt, sortRows_len]
      wtm_at "one"
      rw [hr3]
      wtm_at "one"
      have F₃ : Fr σ' ((σ'.add (.list (rs.map row3V))).add (.list ((Γ.srt rs).map row3V))) := ⟨fun j hj => by wtm_at "st", fun j hj => by wtm_at "st"⟩
      have hd₃ : ((σ'.add (.list (rs.map row3V))).add (.list ((Γ.srt rs).map row3V))).get (σ'.add (.list (rs.map row3V))).len = some (.list ((Γ.srt rs).map row3V)) := by wtm_at "st"
      generalize (σ'.add (.list (rs.map row3V))).add (.list ((Γ.srt rs).map row3V)) = σ₃ at F₃ hd₃ ⊢
      generalize (σ'.add (.list (rs.map row3V))).len = dl at hd₃ ⊢
      have H₃ := H₂.idle F₃ (Nat.le_refl k)
      clear h9
      have h9 := H₃.ctx.area
      unfold areaO at h9
      wtm_at "go"
      refine sp_userf (G.le (by omega)) H₃.ctx H₃.fixd H.fr H₃.hP (by omega) fun σ₄ o F₄ ho ho2 => ?_
      rw [hrs] at ho2
      obtain ⟨f4, f4'⟩ := F₄
      wtm_at "one"
      refine ⟨by simp only [big, List.length_map]; omega, ?_⟩
      refine comp_map (l := Γ.srt rs) row3V (fun d acc τ => acc = d.map (fun r => V.int r.b) ∧ τ = σ₄) ⟨rfl, rfl⟩ ?_ ?_ ?_
      · rintro d acc τ ⟨_, rfl⟩; rfl
      · rintro d a r acc τ K e ⟨rfl, rfl⟩ kk
        clear e
        wtm_at "go"
        exact kk _ _ ⟨by simp, rfl⟩
      · rintro acc τ ⟨rfl, rfl⟩
        rw [G.srt]
        have hoi : okVs 60 ((sortRows rs).map fun r => V.int r.b) = true := okVs_mem fun x hx => by
          obtain ⟨y, _, rfl⟩ := List.mem_map.mp hx
          rfl
        wtm_at "w"
        wtm_at "w"
        rw [ne_list_self (l := (sortRows rs).map fun r => V.int r.b) (by wtm_at "st") (by wtm_at "st") hoi]
        refine q _ _ ?_ ⟨rfl, rfl, rfl, rfl, rfl, rfl, rfl, rfl, rfl, rfl, trivial⟩ h22'
        exact (F₁.trans F).trans (F₃.trans ((Fr.trans ⟨f4, f4'⟩) ⟨fun j hj => by wtm_at "st", fun j hj => by wtm_at "st"⟩))
end
end
section
/- how a deed goes on -/
noncomputable def Goes (tg : Tg) (σ : St) (cells : List Int) (k : Nat) (C : List V) (ob : Nat) (K : Fl → Loc → St → Prop) : Prop :=
  ∀ ℓ' σ' tg' b' C' w' wl' num' fs' p' r', Rep tg' σ' cells (k + 1) b' C' w' wl' num' fs' p' r' → (∀ o x, σ.get o = some x → tg o = .imm → σ'.get o = some x) → (∃ X, C' = C ++ X) → Has ℓ' (L0 ob num') → ℓ' 22 = none → K .next ℓ' σ'
theorem Linked.lt {tg : Tg} {σ σ' : St} {C : List V} {f : Int} {p : PEn} (L : Linked tg σ σ' C f p) {j : Nat} (h : (σ.get j).isSome = true) : j < σ'.len := by
  by_cases h1 : 11 = j
  · subst h1; exact St.get_lt L.code
  · by_cases h2 : p.P = j
    · subst h2; exact St.get_lt L.p.P
    · exact St.get_lt' (by rw [L.F.g j h h1 h2]; exact h)
theorem Mat.linked {p : PEn} {r : REn} {a : Nat} {L : Nat} (h : Mat p r) : Mat (p.linked a) { r with lk := some r.nums, pend := false, L := L } :=
  ⟨h.kind, h.nums, by show some (p.cs.map (·.n)) = some r.nums; rw [h.nums], rfl, h.mark⟩
theorem ne_of_tag {tg : Tg} {i j : Nat} {s t : Tag} (h1 : tg i = s) (h2 : tg j = t) (h : s ≠ t) : i ≠ j := fun e => h (by rw [← h1, ← h2, e])
noncomputable def newTag (tg : Tg) (n : Nat) (t : Nat → Tag) : Tg := fun j => if j < n then tg j else t j
theorem newTag_old {tg : Tg} {n : Nat} {t : Nat → Tag} {j : Nat} (h : j < n) : newTag tg n t j = tg j := if_pos h
theorem newTag_new {tg : Tg} {n : Nat} {t : Nat → Tag} {j : Nat} (h : n ≤ j) : newTag tg n t j = t j := if_neg (by omega)
theorem upd_R {r : Int → REn} {f : Int} {x : REn} (h : x.R = (r f).R) : (fun g => (upd r f x g).R) = fun g => (r g).R := by
  funext g
  by_cases e : g = f
  · rw [e, upd_same, h]
  · rw [upd_ne e]
section
variable {Γ : Env'} {tg : Tg} {σ : St} {cells : List Int} {k : Nat} {b : Bool} {C : List V} {w ob : Nat} {wl : List Int} {num : Int} {fs : List Int} {p : Int → PEn} {r : Int → REn} {ℓ : Loc} {K : Fl → Loc → St → Prop} {f : Int}
/- the row is made to follow the link -/
theorem Rep.relink {σ₁ σ₂ : St} {L : Nat} (H : Rep tg σ cells k b C w wl num fs p r) (hk : k < 16) (hf : f ∈ fs) (LK : Linked tg σ σ₁ C f (p f)) (F : Fr1 (r f).R σ₁ σ₂) (hL : σ₁.len ≤ L) (gL : σ₂.get L = some (.list (toInts (r f).nums)))
    (gR : σ₂.get (r f).R = some (.list [.str (r f).kind, .obj (r f).N, .obj L, .bool false, .str (markS (r f).mark)])) :
    Rep (newTag tg σ₁.len fun ζ => .imm) σ₂ cells (k + 1) b (C ++ (codeR (arOf f) ((p f).cs.map (·.n)) C.length).map Rw.v) w wl num fs (upd p f ((p f).linked C.length)) (upd r f { r f with lk := some (r f).nums, pend := false, L := L }) := by
  have hP := H.hP f hf
  have hR := H.hR f hf
  have F₂ : FrT tg (fun t => t = .own f 2) σ₁ σ₂ := F.tag hR.tR
  have FF : FrT tg (fun t => t = .fix 11 ∨ t = .own f 0 ∨ t = .own f 2) σ σ₂ := (LK.F'.mono fun t h => h.imp id .inl).trans (F₂.mono fun t h => .inr (.inr h))
  have old : ∀ j, (σ₁.get j).isSome = true → newTag tg σ₁.len (fun ζ => .imm) j = tg j := fun j h => newTag_old (St.get_lt' h)
  have nlen : ∀ {i}, i < 66 → i ≠ 14 → i ≠ 11 → ¬ ((Tag.fix i = .fix 11) ∨ Tag.fix i = .own f 0 ∨ Tag.fix i = .own f 2) := fun {i} ζ ζ h z => by rcases z with z | z | z <;> cases z; exact h rfl
  have hcnt := H.cnt f hf
  have hn3 := H.num3
  have hlen := codeR_len (arOf_nn f) ((p f).cs.map (·.n)) C.length
  rw [List.length_map] at hlen
  have l65 : ∀ {j}, (σ.get j).isSome = true → j < σ₁.len := fun h => LK.lt h
  refine H.step (f := f) (pf := (p f).linked C.length) (rf := { r f with lk := some (r f).nums, pend := false, L := L }) FF (fun t h => ?_) (fun j h => newTag_old (LK.lt h)) (.inl ⟨rfl, hf⟩) (H.fr f hf) ?_ ⟨_, rfl⟩ codeRow_mem ?_ ?_ ?_ ?_ (.inl rfl) (fun h => by cases h) ?_ ?_ ?_ (Int.le_refl _) (by omega) ?_
  · rcases h with h | h | h
    · exact .inl h
    · exact .inr (.inr (.inr (.inr ⟨0, h⟩)))
    · exact .inr (.inr (.inr (.inr ⟨2, h⟩)))
  · rw [F₂.g 11 (by rw [LK.code]; rfl) (by rw [H.ctx.tgF 11 (by omega) (by omega)]; simp)]; exact LK.code
  · rw [List.length_append, List.length_map]; omega
  · rw [upd_P (p := p) (f := f) (x := (p f).linked C.length) rfl]; exact H.fix FF (by omega) (by omega) (nlen (by omega) (by omega) (by omega)) H.ctx.procs
  · rw [upd_R (r := r) (f := f) (x := { r f with lk := some (r f).nums, pend := false, L := L }) rfl]; exact H.fix FF (by omega) (by omega) (nlen (by omega) (by omega) (by omega)) H.known
  · rw [FF.g w (by rw [H.wait]; rfl) (by rw [H.tw]; simp)]; exact H.wait
  · exact LK.p.keep F₂ (fun i hi h => by cases h; omega) (fun h => by cases h) ⟨[], by simp⟩ old
  · have lN : (σ.get (r f).N).isSome = true := by rw [hR.N]; rfl
    refine ⟨gR, ?_, fun l e => ?_, ?_, ?_⟩
    · show σ₂.get (r f).N = _
      rw [FF.g _ lN (by rw [hR.tN]; simp)]; exact hR.N
    · cases e
      exact ⟨gL, newTag_new hL⟩
    · show newTag _ _ _ (r f).R = _
      rw [newTag_old (LK.lt (by rw [hR.R]; rfl))]; exact hR.tR
    · show newTag _ _ _ (r f).N = _
      rw [newTag_old (LK.lt lN)]; exact hR.tN
  · exact (H.hM f hf).linked
  · exact hcnt
theorem deed2 (G : Ok 11 Γ) (H : Rep tg σ cells k b C w wl num fs p r) (hk : k < 16) (hℓ : Has ℓ (L0 ob num ++ [(11, .int 2), (12, .int f)])) (h22 : ℓ 22 = none) (hf : freeF f) (q : Goes tg σ cells k C ob K) : wS Γ deedIf ℓ σ K := by
  obtain ⟨ℓ, rfl⟩ := hℓ.ex
  have h22 : ℓ 22 = none := h22
  have h9 := H.ctx.area
  have h9' := h9
  unfold areaO at h9'
  have h13 := H.ctx.procs
  have h65 := H.known
  have hdf := dfit_E (fs := fs) (P := fun f => (p f).P) (off_PF hf)
  have hdf2 := dfit_E (base := []) (fs := fs) (P := fun f => (r f).R) (f := f) off_nil
  simp only [deedIf, loopB, f31, ISs.nth, ISs.from, IS.forB]
  by_cases hm : f ∈ fs
  · have hdg := (dget_E (base := PF) (fs := fs) (P := fun f => (p f).P) (off_PF hf)).1 hm
    have hdg2 := (dget_E (base := []) (fs := fs) (P := fun f => (r f).R) (f := f) off_nil).1 hm
    have hPf := H.hP f hm
    have hRf := H.hR f hm
    have hMf := H.hM f hm
    have hR := hRf.R
    cases hpe : (p f).pend with
    | false =>
      have hP := hPf.P
      rw [← hMf.pend, hpe] at hR
      unfold PEn.o at hP
      rw [hpe] at hP
      wtm_at "go"
      refine sp_lookup1 (G.le (by omega)) h9 h13 hdf hdg hP ?_
      wtm_at "go"
      exact q _ _ tg b C w wl num fs p r (H.idle (Fr.refl _) (by omega)) (fun ζ ζ h ζ => h) ⟨[], by simp⟩ ⟨rfl, rfl, rfl, rfl, rfl, rfl, rfl, rfl, rfl, rfl, trivial⟩ h22
    | true =>
      have hP := hPf.P
      rw [← hMf.pend, hpe] at hR
      unfold PEn.o at hP
      rw [hpe] at hP
      obtain ⟨fu, h6, hb6, hg6⟩ := (H.ctx.sym f hf).fu
      have t11 := H.ctx.tgF 11 (by omega) (by omega)
      have hC := H.lenC
      wtm_at "go"
      refine sp_lookup2 (G.le (by omega)) h9 h13 hdf hdg H.ctx.code H.ctx.shapes (H.ctx.sym f hf).i h6 hb6 hg6 (arOf_nn f) hP hPf.oC hPf.cs (by have := hPf.small; omega) (by omega) (ne_of_tag t11 hPf.tP (by simp)) fun σ₁ F h11 hP1 => ?_
      have LK := linked_of H.ctx hPf (by omega) F h11 hP1
      have tR : ¬ (tg (r f).R = .fix 11 ∨ tg (r f).R = .own f 0) := by rw [hRf.tR]; simp
      have tN : ¬ (tg (r f).N = .fix 11 ∨ tg (r f).N = .own f 0) := by rw [hRf.tN]; simp
      have hR1 := (LK.F'.g _ (by rw [hR]; rfl) tR).trans hR
      have hN1 := (LK.F'.g _ (by rw [hRf.N]; rfl) tN).trans hRf.N
      have h651 := H.fix LK.F' (by omega) (by omega) (by simp) h65
      have hnl : (toInts (r f).nums).length < 1000 := by
        have := hPf.small
        rw [toInts, List.length_map, ← hMf.nums, List.length_map]; exact this
      have hRN : (r f).R ≠ (r f).N := ne_of_tag hRf.tR hRf.tN (by simp)
      have h65R : 65 ≠ (r f).R := ne_of_tag (H.ctx.tgF 65 (by omega) (by omega)) hRf.tR (by simp)
      have h65R' := Ne.symm h65R
      clear h13 h9' hdg hdf hR h65
      wtm_at "go"
      refine q _ _ _ b _ w wl num fs _ _ (H.relink (σ₂ := _) (L := σ₁.len) hk hm LK ?_ (Nat.le_refl _) ?_ ?_) ?_ ⟨_, rfl⟩ ⟨rfl, rfl, rfl, rfl, rfl, rfl, rfl, rfl, rfl, rfl, trivial⟩ h22
      · exact ⟨fun j hj hne => by wtm_at "st", fun j hj hne => by wtm_at "st"⟩
      · wtm_at "st"
      · wtm_at "st" <;> rfl
      · intro o x ho hto
        have hoR : (r f).R ≠ o := ne_of_tag hRf.tR hto (by simp)
        have := (LK.F'.g o (by rw [ho]; rfl) (by rw [hto]; simp)).trans ho
        wtm_at "st"
  · have hdg := (dget_E (base := PF) (fs := fs) (P := fun f => (p f).P) (off_PF hf)).2 hm
    have hdg2 := (dget_E (base := []) (fs := fs) (P := fun f => (r f).R) (f := f) off_nil).2 hm
    wtm_at "go"
    refine sp_lookup0 (G.le (by omega)) h9 h13 hdf hdg ?_
    wtm_at "go"
    exact q _ _ tg b C w wl num fs p r (H.idle (Fr.refl _) (by omega)) (fun ζ ζ h ζ => h) ⟨[], by simp⟩ ⟨rfl, rfl, rfl, rfl, rfl, rfl, rfl, rfl, rfl, rfl, trivial⟩ h22
end
end
section
theorem PAt.setP {tg tg' : Tg} {σ σ' : St} {C D : List V} {f : Int} {p p' : PEn} {M : Tag → Prop} (h : PAt tg σ C f p) (F : FrT tg M σ σ') (h1 : ¬ M (.own f 1)) (h2 : ¬ M .imm) (hC : ∃ X, D = C ++ X) (ht : ∀ j, (σ.get j).isSome = true → tg' j = tg j)
    (e1 : p'.cs = p.cs) (e2 : p'.ent = p.ent) (e3 : p'.kind = p.kind) (e4 : p'.P = p.P) (e5 : p'.C = p.C) (hm : p'.mark < 3) (g : σ'.get p'.P = some (p'.o f)) : PAt tg' σ' D f p' := by
  have lx : ∀ x ∈ p.cs, (σ.get x.c).isSome = true ∧ (σ.get x.i).isSome = true := fun x hx => ⟨by rw [(h.cs x hx).c]; rfl, by rw [(h.cs x hx).i]; rfl⟩
  have lP : (σ.get p.P).isSome = true := by rw [h.P]; rfl
  have lC : (σ.get p.C).isSome = true := by rw [h.oC]; rfl
  obtain ⟨Y, rfl⟩ := hC
  refine ⟨g, by rw [e5, e1, F.g _ lC (by rw [h.tC]; exact h1)]; exact h.oC, fun x hx => ?_, fun a l e => ?_, by rw [e3]; exact h.kd, hm, by rw [e1]; exact h.small, by rw [e4, ht _ lP]; exact h.tP, by rw [e5, ht _ lC]; exact h.tC, fun x hx => ?_⟩
  · rw [e1] at hx
    refine (h.cs x hx).keep fun j hj e => F.g j hj ?_
    obtain ⟨a, b⟩ := h.tcs x hx
    rcases e with rfl | rfl
    · rw [a]; exact h2
    · rw [b]; exact h2
  · rw [e2] at e
    obtain ⟨a, b⟩ := h.led a l e
    exact ⟨a.more, b⟩
  · rw [e1] at hx
    rw [ht _ (lx x hx).1, ht _ (lx x hx).2]; exact h.tcs x hx
theorem RAt.setR {tg tg' : Tg} {σ σ' : St} {f : Int} {r r' : REn} {M : Tag → Prop} (h : RAt tg σ f r) (F : FrT tg M σ σ') (h1 : ¬ M (.own f 3)) (h2 : ¬ M .imm) (ht : ∀ j, (σ.get j).isSome = true → tg' j = tg j)
    (e1 : r'.nums = r.nums) (e2 : r'.lk = r.lk) (e3 : r'.L = r.L) (e4 : r'.R = r.R) (e5 : r'.N = r.N) (g : σ'.get r'.R = some (.list [.str r'.kind, .obj r'.N, lkV r'.L r'.lk, .bool r'.pend, .str (markS r'.mark)])) : RAt tg' σ' f r' := by
  have lR : (σ.get r.R).isSome = true := by rw [h.R]; rfl
  have lN : (σ.get r.N).isSome = true := by rw [h.N]; rfl
  refine ⟨g, by rw [e5, e1, F.g _ lN (by rw [h.tN]; exact h1)]; exact h.N, fun l e => ?_, by rw [e4, ht _ lR]; exact h.tR, by rw [e5, ht _ lN]; exact h.tN⟩
  rw [e2] at e
  obtain ⟨a, b⟩ := h.L l e
  have lL : (σ.get r.L).isSome = true := by rw [a]; rfl
  exact ⟨by rw [e3, F.g _ lL (by rw [b]; exact h2)]; exact a, by rw [e3, ht _ lL]; exact b⟩
section
variable {Γ : Env'} {tg : Tg} {σ : St} {cells : List Int} {k : Nat} {b : Bool} {C : List V} {w ob : Nat} {wl : List Int} {num : Int} {fs : List Int} {p : Int → PEn} {r : Int → REn} {ℓ : Loc} {K : Fl → Loc → St → Prop} {f : Int}
theorem deed5 (G : Ok 11 Γ) (H : Rep tg σ cells k b C w wl num fs p r) (hk : k < 16) (hcl : cells.length < 100) (hℓ : Has ℓ (L0 ob num ++ [(11, .int 5), (12, .int f)])) (h22 : ℓ 22 = none) (hf : freeF f) (q : Goes tg σ cells k C ob K) : wS Γ deedIf ℓ σ K := by
  obtain ⟨ℓ, rfl⟩ := hℓ.ex
  have h22 : ℓ 22 = none := h22
  have h65 := H.known
  have hdf2 := dfit_E (base := []) (fs := fs) (P := fun f => (r f).R) (f := f) off_nil
  simp only [deedIf, loopB, f31, ISs.nth, IS.forB]
  by_cases hm : f ∈ fs
  · have hdg2 := (dget_E (base := []) (fs := fs) (P := fun f => (r f).R) (f := f) off_nil).1 hm
    wtm_at "go"
    have F₀ : Fr σ (σ.add (.list [.str "library", .str "helper"])) := ⟨fun j hj => by wtm_at "st", fun j hj => by wtm_at "st"⟩
    refine sp_pick (G.le (by omega)) (H.hand.keep (fun h => F₀.g 1 h) fun h => F₀.g 2 h) hcl (by omega) (by omega) fun σ₁ d F₁ hh h0 h1 => ?_
    have t2 := H.ctx.tgF 2 (by omega) (by omega)
    have FT : FrT tg (fun t => t = .fix 2) σ σ₁ := F₀.tag.trans (F₁.tag t2)
    have H₁ := H.keep FT (fun ζ h => h) hh (Nat.le_refl k)
    have hlist : σ₁.get σ.len = some (.list [.str "library", .str "helper"]) := by
      have : 2 ≠ σ.len := by have := H.len; omega
      rw [F₁.g _ (by rw [St.ga_len]; rfl) this, St.ga_len]
    have h65₁ := H₁.known
    have h9₁ := H₁.ctx.area
    unfold areaO at h9₁
    have h13₁ := H₁.ctx.procs
    have hdg := (dget_E (base := PF) (fs := fs) (P := fun f => (p f).P) (off_PF hf)).1 hm
    have hdf := dfit_E (fs := fs) (P := fun f => (p f).P) (off_PF hf)
    have hPf := H₁.hP f hm
    have hRf := H₁.hR f hm
    have hMf := H₁.hM f hm
    have hP := hPf.P
    unfold PEn.o procO at hP
    have hR := hRf.R
    have hPR : (p f).P ≠ (r f).R := ne_of_tag hPf.tP hRf.tR (by simp)
    have hPR' := Ne.symm hPR
    have hX : ∀ i, i < 66 → i ≠ 14 → i ≠ (p f).P ∧ (p f).P ≠ i ∧ i ≠ (r f).R ∧ (r f).R ≠ i := fun i h1 h2 => by
      have a := ne_of_tag (H.ctx.tgF i h1 h2) hPf.tP (by simp)
      have c := ne_of_tag (H.ctx.tgF i h1 h2) hRf.tR (by simp)
      exact ⟨a, Ne.symm a, c, Ne.symm c⟩
    obtain ⟨a1, a2, a3, a4⟩ := hX 65 (by omega) (by omega)
    obtain ⟨c1, c2, c3, c4⟩ := hX 13 (by omega) (by omega)
    obtain ⟨d1, d2, d3, d4⟩ := hX 9 (by omega) (by omega)
    clear hX h65
    have fin : ∀ (m : Nat) (lb hb : Bool) (σ₂ : St), m < 3 → (m == 1) = lb → (m == 2) = hb → Fr2 (p f).P (r f).R σ₁ σ₂ → σ₂.get (p f).P = some (procO f (p f).kind (entI (p f).ent) (p f).C (p f).T lb hb (p f).pend) →
        σ₂.get (r f).R = some (.list [.str (r f).kind, .obj (r f).N, lkV (r f).L (r f).lk, .bool (r f).pend, .str (markS m)]) → Rep tg σ₂ cells (k + 1) b C w wl num fs (upd p f { p f with mark := m }) (upd r f { r f with mark := m }) := by
      intro m lb hb σ₂ hm3 e1 e2 F gP gR
      have FT2 : FrT tg (fun t => t = .own f 0 ∨ t = .own f 2) σ₁ σ₂ := F.tag (.inl hPf.tP) (.inr hRf.tR)
      have nfx : ∀ i, ¬ (Tag.fix i = .own f 0 ∨ Tag.fix i = .own f 2) := fun i z => by rcases z with z | z <;> cases z
      have hn3 := H₁.num3
      refine H₁.step (f := f) (pf := { p f with mark := m }) (rf := { r f with mark := m }) FT2 (fun t h => ?_) (fun ζ ζ => rfl) (.inl ⟨rfl, hm⟩) hf (H₁.fix FT2 (by omega) (by omega) (nfx _) H₁.ctx.code) ⟨[], by simp⟩ (fun x h => .inl h) (by omega) ?_ ?_ ?_ (.inl rfl) (fun h => H₁.pendW f hm h) ?_ ?_ ?_ (Int.le_refl _) (by omega) (H₁.cnt f hm)
      · rcases h with h | h
        · exact .inr (.inr (.inr (.inr ⟨0, h⟩)))
        · exact .inr (.inr (.inr (.inr ⟨2, h⟩)))
      · rw [upd_P (p := p) (f := f) (x := { p f with mark := m }) rfl]; exact H₁.fix FT2 (by omega) (by omega) (nfx _) H₁.ctx.procs
      · rw [upd_R (r := r) (f := f) (x := { r f with mark := m }) rfl]; exact H₁.fix FT2 (by omega) (by omega) (nfx _) H₁.known
      · rw [FT2.g w (by rw [H₁.wait]; rfl) (by rw [H₁.tw]; simp)]; exact H₁.wait
      · refine hPf.setP FT2 (by simp) (by simp) ⟨[], by simp⟩ (fun ζ ζ => rfl) rfl rfl rfl rfl rfl hm3 ?_
        show σ₂.get (p f).P = some (procO f (p f).kind (entI (p f).ent) (p f).C (p f).T (m == 1) (m == 2) (p f).pend)
        rw [e1, e2]; exact gP
      · exact hRf.setR FT2 (by simp) (by simp) (fun ζ ζ => rfl) rfl rfl rfl rfl rfl gR
      · exact ⟨hMf.kind, hMf.nums, hMf.lk, hMf.pend, rfl⟩
    have imm : ∀ σ₂, Fr2 (p f).P (r f).R σ₁ σ₂ → ∀ o x, σ.get o = some x → tg o = .imm → σ₂.get o = some x := fun σ₂ F o x ho hto => by
      have := (FT.g o (by rw [ho]; rfl) (by rw [hto]; simp)).trans ho
      rw [F.g o (by rw [this]; rfl) (ne_of_tag hPf.tP hto (by simp)) (ne_of_tag hRf.tR hto (by simp))]
      exact this
    rcases (by omega : d = 0 ∨ d = 1) with rfl | rfl
    · skip
      wtm_at "go"
      refine q _ _ _ b _ w wl num fs _ _ (fin 1 true false _ (by omega) rfl rfl ?_ ?_ ?_) (imm _ ?_) ⟨[], by simp⟩ ⟨rfl, rfl, rfl, rfl, rfl, rfl, rfl, rfl, rfl, rfl, trivial⟩ h22
      · exact ⟨fun j hj hne hne2 => by wtm_at "st", fun j hj hne hne2 => by wtm_at "st"⟩
      · wtm_at "st" <;> rfl
      · wtm_at "st" <;> rfl
      · exact ⟨fun j hj hne hne2 => by wtm_at "st", fun j hj hne hne2 => by wtm_at "st"⟩
    · skip
      wtm_at "go"
      refine q _ _ _ b _ w wl num fs _ _ (fin 2 false true _ (by omega) rfl rfl ?_ ?_ ?_) (imm _ ?_) ⟨[], by simp⟩ ⟨rfl, rfl, rfl, rfl, rfl, rfl, rfl, rfl, rfl, rfl, trivial⟩ h22
      · exact ⟨fun j hj hne hne2 => by wtm_at "st", fun j hj hne hne2 => by wtm_at "st"⟩
      · wtm_at "st" <;> rfl
      · wtm_at "st" <;> rfl
      · exact ⟨fun j hj hne hne2 => by wtm_at "st", fun j hj hne hne2 => by wtm_at "st"⟩
  · have hdg2 := (dget_E (base := []) (fs := fs) (P := fun f => (r f).R) (f := f) off_nil).2 hm
    wtm_at "go"
    exact q _ _ tg b C w wl num fs p r (H.idle (Fr.refl _) (by omega)) (fun ζ ζ h ζ => h) ⟨[], by simp⟩ ⟨rfl, rfl, rfl, rfl, rfl, rfl, rfl, rfl, rfl, rfl, trivial⟩ h22
end
end
section
theorem PAt.retag {tg tg' : Tg} {σ : St} {C : List V} {f : Int} {p : PEn} {n : Nat} (h : PAt tg σ C f p) (ht : ∀ j, j < n → tg' j = tg j) (h1 : p.P < n) (h2 : p.C < n) (h3 : ∀ x ∈ p.cs, x.c < n ∧ x.i < n) : PAt tg' σ C f p :=
  ⟨h.P, h.oC, h.cs, h.led, h.kd, h.mrk, h.small, by rw [ht _ h1]; exact h.tP, by rw [ht _ h2]; exact h.tC, fun x hx => by rw [ht _ (h3 x hx).1, ht _ (h3 x hx).2]; exact h.tcs x hx⟩
theorem Upd.C {d : List Int} {f : Int} {p p' : PEn} (h : Upd d f p p') : p'.C = p.C := by
  rcases h with ⟨rfl, _⟩ | ⟨_, _, _, rfl⟩ <;> rfl
/- a row after the loop over known -/
noncomputable def UpdR (d : List Int) (f : Int) (r r' : REn) : Prop := (r' = r ∧ ¬ (r.pend = true ∧ f ∈ d)) ∨ (r.pend = true ∧ f ∈ d ∧ ∃ L, r' = { r with lk := some r.nums, pend := false, L := L })
theorem UpdR.R {d : List Int} {f : Int} {r r' : REn} (h : UpdR d f r r') : r'.R = r.R := by
  rcases h with ⟨rfl, _⟩ | ⟨_, _, _, rfl⟩ <;> rfl
theorem UpdR.snoc {d : List Int} {f g : Int} {r r' : REn} (h : UpdR d g r r') (hk : g = f → r'.pend = false) : UpdR (d ++ [f]) g r r' := by
  rcases h with ⟨rfl, h⟩ | ⟨h1, h2, h3⟩
  · refine .inl ⟨rfl, fun z => ?_⟩
    rcases List.mem_append.mp z.2 with z2 | z2
    · exact h ⟨z.1, z2⟩
    · rw [hk (List.mem_singleton.mp z2)] at z; cases z.1
  · exact .inr ⟨h1, List.mem_append_left _ h2, h3⟩
section
variable {Γ : Env'} {tg : Tg} {σ : St} {cells : List Int} {k : Nat} {b : Bool} {C : List V} {w ob : Nat} {wl : List Int} {num : Int} {fs : List Int} {p : Int → PEn} {r : Int → REn} {ℓ : Loc} {K : Fl → Loc → St → Prop} {f : Int}
theorem deed1 (G : Ok 11 Γ) (H : Rep tg σ cells k b C w wl num fs p r) (hk : k < 16) (hℓ : Has ℓ (L0 ob num ++ [(11, .int 1), (12, .int f)])) (h22 : ℓ 22 = none) (q : Goes tg σ cells k C ob K) : wS Γ deedIf ℓ σ K := by
  obtain ⟨ℓ, rfl⟩ := hℓ.ex
  have h22 : ℓ 22 = none := h22
  have h9 := H.ctx.area
  unfold areaO at h9
  have hn3 := H.num3
  have hlw := H.lenW
  have hlC := H.lenC
  have hmul : (4 * 48 + 1) * wl.length ≤ 3400 := by omega
  simp only [deedIf, loopB, f31, ISs.nth, IS.forB]
  wtm_at "go"
  refine sp_linkpend (G.le (by omega)) (N := 48) H.ctx H.fr H.wait H.tw H.inW H.hP (fun f hf => by have := H.cnt f hf; omega) (by omega) (by omega) fun σ₁ p' C' c₁ F₁ hp₁ hl₁ hX₁ hw₁ hlt₁ hr₁ => ?_
  have h9₁ := c₁.area
  unfold areaO at h9₁
  clear h9
  wtm_at "gw"
  try rw [ne_list_self (l := []) (by wtm_at "st") (by wtm_at "st") rfl]
  have F₂ : Fr σ₁ (σ₁.add (.list [])) := ⟨fun j hj => by wtm_at "st", fun j hj => by wtm_at "st"⟩
  generalize σ₁.add (.list []) = σ₂ at F₂ ⊢
  have FT : FrT tg (fun t => t = .fix 9 ∨ t = .fix 11 ∨ ∃ f, t = .own f 0) σ σ₂ := F₁.trans F₂.tag
  have t65 := H.ctx.tgF 65 (by omega) (by omega)
  have h65 := H.fix FT (by omega) (by omega) (by rintro (h | h | ⟨_, h⟩) <;> cases h) H.known
  have hfl := free_len H.nd H.fr
  generalize htg : (newTag tg σ.len fun j => if j = σ.len then .wait else .imm) = tg₁
  have ht₁ : ∀ j, j < σ.len → tg₁ j = tg j := fun j h => by rw [← htg]; exact newTag_old h
  have hti : ∀ j, σ.len < j → tg₁ j = .imm := fun j h => by rw [← htg, newTag_new (by omega), if_neg (by omega)]
  have htw : tg₁ σ.len = .wait := by rw [← htg, newTag_new (by omega), if_pos rfl]
  have hR₂ : ∀ f ∈ fs, RAt tg₁ σ₂ f (r f) := fun f hf => (H.hR f hf).keep FT (fun i hi h => by rcases h with h | h | ⟨_, h⟩ <;> cases h; omega) (by rintro (h | h | ⟨_, h⟩) <;> cases h) fun j h => ht₁ j (St.get_lt' h)
  refine Op.mk ?_
  rw [src_dict h65 (E_all rfl), E_keys]
  refine ⟨by simp only [big, List.length_map]; omega, ?_⟩
  refine for_map (l := fs) V.int (fun d ℓ σ' => Has ℓ (L0 ob num) ∧ ℓ 22 = none ∧ ∃ r' : Int → REn, FrT tg₁ (fun t => ∃ f, t = .own f 2) σ₂ σ' ∧ ∀ f ∈ fs, RAt tg₁ σ' f (r' f) ∧ UpdR d f (r f) (r' f)) ?_ ?_ ?_ ?_
  · exact ⟨⟨rfl, rfl, rfl, rfl, rfl, rfl, rfl, rfl, rfl, rfl, trivial⟩, h22, r, FrT.refl, fun f hf => ⟨hR₂ f hf, .inl ⟨rfl, fun h => by cases h.2⟩⟩⟩
  · rintro d ℓ σ' ⟨_, _, r', F, _⟩
    exact F.v 65 (by rw [h65]; rfl) (by rw [ht₁ 65 (by have := H.len; omega), t65]; rintro ⟨_, h⟩; cases h)
  · rintro d f t ℓ σ' K' e ⟨h0, h22', r', F, hr'⟩ kk
    have hf : f ∈ fs := by rw [e]; simp
    have hfd : f ∉ d := by
      have := H.nd
      rw [e, List.nodup_append] at this
      exact fun h => this.2.2 f h f (by simp) rfl
    clear e
    obtain ⟨ℓ, rfl⟩ := h0.ex
    have h22' : ℓ 22 = none := h22'
    obtain ⟨hRf, huf⟩ := hr' f hf
    have hrf : r' f = r f := by
      rcases huf with ⟨h, _⟩ | ⟨_, h, _⟩
      · exact h
      · exact absurd h hfd
    rw [hrf] at hRf
    have h65' : σ'.get 65 = some (.dict (E [] fs fun f => (r f).R)) := (F.g 65 (by rw [h65]; rfl) (by rw [ht₁ 65 (by have := H.len; omega), t65]; rintro ⟨_, h⟩; cases h)).trans h65
    have hdg2 := (dget_E (base := []) (fs := fs) (P := fun f => (r f).R) (f := f) off_nil).1 hf
    have hdf2 := dfit_E (base := []) (fs := fs) (P := fun f => (r f).R) (f := f) off_nil
    have hR := hRf.R
    cases hpe : (r f).pend with
    | false =>
      rw [hpe] at hR
      clear hrf
      wtm_at "go"
      refine kk _ _ ⟨⟨rfl, rfl, rfl, rfl, rfl, rfl, rfl, rfl, rfl, rfl, trivial⟩, h22', r', F, fun g hg => ⟨(hr' g hg).1, (hr' g hg).2.snoc fun eg => ?_⟩⟩
      rw [eg]
      rcases huf with ⟨h, _⟩ | ⟨_, h, _⟩
      · rw [h]; exact hpe
      · exact absurd h hfd
    | true =>
      rw [hpe] at hR
      have hN := hRf.N
      have hnl : (toInts (r f).nums).length < 1000 := by
        have := (H.hP f hf).small
        rw [toInts, List.length_map, ← (H.hM f hf).nums, List.length_map]; exact this
      have hRN : (r f).R ≠ (r f).N := ne_of_tag hRf.tR hRf.tN (by simp)
      have h65R : 65 ≠ (r f).R := by
        refine ne_of_tag (s := .fix 65) ?_ hRf.tR (by simp)
        rw [ht₁ 65 (by have := H.len; omega), t65]
      have h65R' := Ne.symm h65R
      have hlen' : σ.len < σ'.len := by
        have h1 : σ₂.get σ.len = some (.list []) := by rw [F₂.g _ (by rw [hw₁]; rfl)]; exact hw₁
        have := F.g σ.len (by rw [h1]; rfl) (by rw [htw]; rintro ⟨_, h⟩; cases h)
        exact St.get_lt (this.trans h1)
      clear hrf
      wtm_at "go"
      refine kk _ _ ⟨⟨rfl, rfl, rfl, rfl, rfl, rfl, rfl, rfl, rfl, rfl, trivial⟩, h22', upd r' f { r f with lk := some (r f).nums, pend := false, L := σ'.len }, ?_, fun g hg => ?_⟩
      · have F1 : Fr1 (r f).R σ' (((σ'.add (.list (toInts (r f).nums))).put (r f).R (.list [.str (r f).kind, .obj (r f).N, .obj σ'.len, .bool true, .str (markS (r f).mark)])).put (r f).R (.list [.str (r f).kind, .obj (r f).N, .obj σ'.len, .bool false, .str (markS (r f).mark)])) := ⟨fun j hj hne => by wtm_at "st", fun j hj hne => by wtm_at "st"⟩
        exact F.trans (F1.tag ⟨f, hRf.tR⟩)
      · have F1 : Fr1 (r f).R σ' (((σ'.add (.list (toInts (r f).nums))).put (r f).R (.list [.str (r f).kind, .obj (r f).N, .obj σ'.len, .bool true, .str (markS (r f).mark)])).put (r f).R (.list [.str (r f).kind, .obj (r f).N, .obj σ'.len, .bool false, .str (markS (r f).mark)])) := ⟨fun j hj hne => by wtm_at "st", fun j hj hne => by wtm_at "st"⟩
        have F2 : FrT tg₁ (fun t => t = .own f 2) _ _ := F1.tag hRf.tR
        by_cases eg : g = f
        · subst eg
          rw [upd_same]
          refine ⟨⟨?_, ?_, fun l e => ?_, hRf.tR, hRf.tN⟩, .inr ⟨hpe, by simp, _, rfl⟩⟩
          · show St.get _ (r g).R = _
            wtm_at "st" <;> rfl
          · show St.get _ (r g).N = _
            wtm_at "st"
          · cases e
            refine ⟨?_, hti _ hlen'⟩
            show St.get _ σ'.len = _
            wtm_at "st"
        · rw [upd_ne eg]
          refine ⟨(hr' g hg).1.keep F2 (fun i ζ h => by cases h; exact eg rfl) (fun h => by cases h) fun ζ ζ => rfl, (hr' g hg).2.snoc fun z => absurd z eg⟩
  · rintro ℓ σ' ⟨h0, h22', r', F, hr'⟩
    have live14 : ∀ i, i < 66 → i < σ.len := fun i h => by have := H.len; omega
    have kp2 : ∀ i, i < 66 → i ≠ 14 → (σ₁.get i).isSome = true → σ'.get i = σ₁.get i := fun i h1 h2 h => by
      have e2 := F₂.g i h
      rw [F.g i (by rw [e2]; exact h) (by rw [ht₁ i (live14 i h1), H.ctx.tgF i h1 h2]; rintro ⟨_, h⟩; cases h), e2]
    have kp : ∀ i, i < 66 → i ≠ 14 → i ≠ 9 → i ≠ 11 → (σ.get i).isSome = true → σ'.get i = σ.get i := fun i h1 h2 h3 h4 h => by
      have e1 := F₁.g i h (by rw [H.ctx.tgF i h1 h2]; rintro (h | h | ⟨_, h⟩) <;> cases h; exact h3 rfl; exact h4 rfl)
      rw [kp2 i h1 h2 (by rw [e1]; exact h), e1]
    have FF : FrT tg₁ (fun t => ∃ f, t = .own f 2) σ₁ σ' := F₂.tag.trans F
    have sym' : Sym b σ' := H.sym.keep fun i h1 h2 h => kp i (by omega) (by omega) (by omega) (by omega) h
    have hup : ∀ f ∈ fs, ((p f).pend = false ∧ p' f = p f ∧ r' f = r f) ∨ ((p f).pend = true ∧ (∃ a, p' f = (p f).linked a) ∧ ∃ L, r' f = { r f with lk := some (r f).nums, pend := false, L := L }) := fun f hf => by
      obtain ⟨_, h1⟩ := hp₁ f hf
      obtain ⟨_, h2⟩ := hr' f hf
      have hm := (H.hM f hf).pend
      cases hpe : (p f).pend with
      | false =>
        refine .inl ⟨rfl, ?_, ?_⟩
        · rcases h1 with ⟨h, _⟩ | ⟨h, _⟩
          · exact h
          · rw [hpe] at h; cases h
        · rcases h2 with ⟨h, _⟩ | ⟨h, _⟩
          · exact h
          · rw [← hm, hpe] at h; cases h
      | true =>
        refine .inr ⟨rfl, ?_, ?_⟩
        · rcases h1 with ⟨_, h⟩ | ⟨_, _, h⟩
          · exact absurd ⟨hpe, H.pendW f hf hpe⟩ h
          · exact h
        · rcases h2 with ⟨_, h⟩ | ⟨_, _, h⟩
          · exact absurd ⟨by rw [← hm]; exact hpe, hf⟩ h
          · exact h
    have hnp : ∀ f ∈ fs, (p' f).pend = false := fun f hf => by
      rcases hup f hf with ⟨h, e, _⟩ | ⟨_, ⟨a, e⟩, _⟩
      · rw [e]; exact h
      · rw [e]; rfl
    have hRR : (fun f => (r' f).R) = fun f => (r' f).R := rfl
    have e65 : E [] fs (fun f => (r' f).R) = E [] fs fun f => (r f).R := by
      unfold E
      congr 1
      exact List.map_congr_left fun f hf => by show (V.int f, V.obj (r' f).R) = _; rw [(hr' f hf).2.R]
    obtain ⟨ℓ, rfl⟩ := h0.ex
    have h22' : ℓ 22 = none := h22'
    have R' : Rep tg₁ σ' cells (k + 1) b C' σ.len [] num fs p' r' := by
      refine ⟨H.hand.keep (kp 1 (by omega) (by omega) (by omega) (by omega)) (kp 2 (by omega) (by omega) (by omega) (by omega)), sym', ⟨?_, ?_, ?_, ?_, fun f hf => sym'.free hf, fun i h1 h2 => ?_⟩, fun x hx => ?_, by omega, H.fixd.keep fun j h1 h2 h => kp j (by omega) (by omega) (by omega) (by omega) h, ?_, htw, by simp, (fun f hf => by cases hf), (fun f hf h => by rw [hnp f hf] at h; cases h), ?_, ?_, ?_, H.nd, H.fr, fun g hg => ?_, fun g hg => (hr' g hg).1, fun g hg => ?_, H.num0, by omega, fun g hg => ?_, ?_, ?_⟩
      · rw [kp2 9 (by omega) (by omega) (by rw [c₁.area]; rfl)]; exact c₁.area
      · rw [kp2 11 (by omega) (by omega) (by rw [c₁.code]; rfl)]; exact c₁.code
      · rw [kp2 12 (by omega) (by omega) (by rw [c₁.shapes]; rfl)]; exact c₁.shapes
      · rw [kp2 13 (by omega) (by omega) (by rw [c₁.procs]; rfl)]; exact c₁.procs
      · rw [ht₁ i (live14 i h1)]; exact H.ctx.tgF i h1 h2
      · rcases hr₁ x hx with h | ⟨y, rfl⟩
        · exact H.okC x h
        · exact okV_row y
      · have e2 := F₂.g σ.len (by rw [hw₁]; rfl)
        rw [F.g σ.len (by rw [e2, hw₁]; rfl) (by rw [htw]; rintro ⟨_, h⟩; cases h), e2]; exact hw₁
      · rw [e65, kp 65 (by omega) (by omega) (by omega) (by omega) (by rw [H.known]; rfl)]; exact H.known
      · rw [kp 63 (by omega) (by omega) (by omega) (by omega) (by rw [H.freeL]; rfl)]; exact H.freeL
      · rw [kp 64 (by omega) (by omega) (by omega) (by omega) (by rw [H.fixL]; rfl)]; exact H.fixL
      · obtain ⟨h1, h2⟩ := hp₁ g hg
        have hpg := H.hP g hg
        refine PAt.keep (tg := tg₁) (h1.retag ht₁ ?_ ?_ ?_) FF (fun i hi h => by obtain ⟨_, h⟩ := h; cases h; omega) (by rintro ⟨_, h⟩; cases h) ⟨[], by simp⟩ fun ζ ζ => rfl
        · rw [h2.P]; exact St.get_lt hpg.P
        · rw [h2.C]; exact St.get_lt hpg.oC
        · rw [h2.cs]; exact fun x hx => ⟨St.get_lt (hpg.cs x hx).c, St.get_lt (hpg.cs x hx).i⟩
      · have hm := H.hM g hg
        rcases hup g hg with ⟨_, e1, e2⟩ | ⟨_, ⟨a, e1⟩, ⟨L, e2⟩⟩
        · rw [e1, e2]; exact hm
        · rw [e1, e2]; exact hm.linked
      · rw [(hp₁ g hg).2.cs]; exact H.cnt g hg
      · have h8 := kp 65 (by omega) (by omega) (by omega) (by omega) (by rw [H.known]; rfl)
        have := St.get_lt (h8.trans H.known)
        omega
      · have h0 := H.zero
        have t0 := H.ctx.tgF 0 (by omega) (by omega)
        have m0 : ¬ (tg 0 = .fix 9 ∨ tg 0 = .fix 11 ∨ ∃ f, tg 0 = .own f 0) := by rw [t0]; rintro (h | h | ⟨_, h⟩) <;> cases h
        have e1 := F₁.g 0 h0.1 m0
        have e2 := F₁.v 0 h0.1 m0
        have l1 : (σ₁.get 0).isSome = true := by rw [e1]; exact h0.1
        have m1 : ¬ ∃ f, tg₁ 0 = .own f 2 := by rw [ht₁ 0 (live14 0 (by omega)), t0]; rintro ⟨_, h⟩; cases h
        exact ⟨by rw [FF.g 0 l1 m1]; exact l1, by rw [FF.v 0 l1 m1, e2]; exact h0.2⟩
    refine q _ _ _ b C' _ [] num fs p' r' R' (fun o x ho hto => ?_) hX₁ ⟨rfl, rfl, rfl, rfl, rfl, rfl, rfl, rfl, rfl, rfl, trivial⟩ h22'
    have h7 := F₁.g o (by rw [ho]; rfl) (by rw [hto]; rintro (h | h | ⟨_, h⟩) <;> cases h)
    rw [FF.g o (by rw [h7, ho]; rfl) (by rw [ht₁ o (St.get_lt ho), hto]; rintro ⟨_, h⟩; cases h), h7]; exact ho
end
end
section
theorem updP_comm {p : Int → PEn} {f : Int} {x : PEn} : (fun g => (upd p f x g).P) = upd (fun g => (p g).P) f x.P := by
  funext g
  by_cases e : g = f
  · rw [e, upd_same, upd_same]
  · rw [upd_ne e, upd_ne e]
theorem updR_comm {r : Int → REn} {f : Int} {x : REn} : (fun g => (upd r f x g).R) = upd (fun g => (r g).R) f x.R := by
  funext g
  by_cases e : g = f
  · rw [e, upd_same, upd_same]
  · rw [upd_ne e, upd_ne e]
theorem rangeL_ints (a : Int) (m : Nat) : rangeL a (a + m) = toInts ((List.range m).map fun (i : Nat) => a + (i : Int)) := by
  unfold rangeL toInts
  rw [List.map_map, show (a + (m : Int) - a).toNat = m by omega]
  rfl
/- where a new entry stands in the dicts -/
theorem new_fs {fs : List Int} {f : Int} : ∃ fs', (fs' = fs ∧ f ∈ fs ∨ fs' = fs ++ [f] ∧ f ∉ fs) := by
  by_cases h : f ∈ fs
  · exact ⟨fs, .inl ⟨rfl, h⟩⟩
  · exact ⟨fs ++ [f], .inr ⟨rfl, h⟩⟩
theorem dput_new_fs {base : List (V × V)} {fs fs' : List Int} {P : Int → Nat} {f : Int} {x : Nat} (hb : Off base f) (hn : fs.Nodup) (h : fs' = fs ∧ f ∈ fs ∨ fs' = fs ++ [f] ∧ f ∉ fs) : dput (.int f) (.obj x) (E base fs P) = E base fs' (upd P f x) := by
  rcases h with ⟨rfl, h⟩ | ⟨rfl, h⟩
  · exact (dput_E hb hn).1 h
  · exact (dput_E hb hn).2 h
section
variable {Γ : Env'} {tg : Tg} {σ : St} {cells : List Int} {k : Nat} {b : Bool} {C : List V} {w ob : Nat} {wl : List Int} {num : Int} {fs : List Int} {p : Int → PEn} {r : Int → REn} {ℓ : Loc} {K : Fl → Loc → St → Prop} {f : Int}
theorem deed3 (G : Ok 11 Γ) (H : Rep tg σ cells k b C w wl num fs p r) (hk : k < 16) (hcl : cells.length < 100) (hℓ : Has ℓ (L0 ob num ++ [(11, .int 3), (12, .int f)])) (h22 : ℓ 22 = none) (hf : freeF f) (q : Goes tg σ cells k C ob K) : wS Γ deedIf ℓ σ K := by
  obtain ⟨ℓ, rfl⟩ := hℓ.ex
  have h22 : ℓ 22 = none := h22
  simp only [deedIf, loopB, f31, ISs.nth, IS.forB]
  refine sp_pick (G.le (by omega)) H.hand hcl (by omega) (by omega) fun σ₁ d F₁ hh h0 h1 => ?_
  have t2 := H.ctx.tgF 2 (by omega) (by omega)
  have FT : FrT tg (fun t => t = .fix 2) σ σ₁ := F₁.tag t2
  have H₁ := H.keep FT (fun ζ h => h) hh (Nat.le_refl k)
  obtain ⟨m, rfl⟩ : ∃ m : Nat, d = m := ⟨d.toNat, by omega⟩
  wtm_at "go"
  have e0 : rangeL 0 (m : Int) = (List.range m).map fun (j : Nat) => V.int (0 + (j : Int)) := by rw [rangeL_map]; congr 2
  rw [e0]
  refine comp_range (N := m) (fun (j : Nat) => V.int (0 + (j : Int))) (fun d acc σ' => Fr σ₁ σ' ∧ σ₁.len ≤ σ'.len ∧ ∃ cs : List Cd, acc = cs.map (fun x => V.obj x.c) ∧ cs.map (·.n) = (List.range d).map (fun (i : Nat) => num + (i : Int)) ∧ ∀ x ∈ cs, CdAt σ' f x ∧ σ₁.len ≤ x.c ∧ σ₁.len ≤ x.i) ?_ ?_ ?_ ?_
  · exact ⟨Fr.refl _, Nat.le_refl _, [], rfl, rfl, fun x h => by cases h⟩
  · rintro d acc σ' _; rfl
  · rintro d acc σ' K' hd ⟨F, hle, cs, rfl, hn, hx⟩ kk
    obtain ⟨f1, f1'⟩ := F
    refine sp_codeinit (G.le (by omega)) (by wtm_at "st") fun σ₃ F₃ hl₃ hc₃ => ?_
    obtain ⟨f3, f3'⟩ := F₃
    have FF : Fr σ' σ₃ := ⟨fun j hj => by wtm_at "st", fun j hj => by wtm_at "st"⟩
    refine ⟨rfl, kk _ _ ⟨Fr.trans ⟨f1, f1'⟩ FF, ?_, cs ++ [⟨(σ'.add (.list [(Rw.pc (num + (0 + (d : Int)))).v, Rw.pr.v])).len, σ'.len, num + (0 + (d : Int))⟩], ?_, ?_, fun x hx' => ?_⟩⟩
    · rw [hl₃]; simp only [St.len_add]; omega
    · rw [List.map_append]; rfl
    · rw [List.map_append, hn, List.range_succ, List.map_append]
      simp
    · rcases List.mem_append.mp hx' with h | h
      · obtain ⟨a, b1, b2⟩ := hx x h
        exact ⟨a.keep fun j hj ζ => FF.g j hj, b1, b2⟩
      · rw [List.mem_singleton.mp h]
        refine ⟨⟨hc₃, ?_⟩, by simp only [St.len_add]; omega, hle⟩
        show σ₃.get σ'.len = _
        wtm_at "st" <;> rfl
  · rintro acc σ₂ ⟨F₂, hle₂, cs, rfl, hn₂, hx₂⟩
    have hcsl : cs.length = m := by
      have := congrArg List.length hn₂
      simpa using this
    have F₃ : Fr σ₂ (σ₂.add (.list (cs.map fun x => V.obj x.c))) := ⟨fun j hj => by wtm_at "st", fun j hj => by wtm_at "st"⟩
    have H₃ := (H₁.idle F₂ (Nat.le_refl k)).idle F₃ (Nat.le_refl k)
    have hcl₃ : (σ₂.add (.list (cs.map fun x => V.obj x.c))).get σ₂.len = some (cdsO cs) := St.ga_len
    have hln₃ : (σ₂.add (.list (cs.map fun x => V.obj x.c))).len = σ₂.len + 1 := St.len_add _ _
    have hx₃ : ∀ x ∈ cs, CdAt (σ₂.add (.list (cs.map fun x => V.obj x.c))) f x := fun x h => (hx₂ x h).1.keep fun j hj ζ => F₃.g j hj
    have hxlt : ∀ x ∈ cs, x.c < σ₂.len ∧ x.i < σ₂.len := fun x h => ⟨St.get_lt (hx₂ x h).1.c, St.get_lt (hx₂ x h).1.i⟩
    wtm_at "w"
    generalize σ₂.add (.list (cs.map fun x => V.obj x.c)) = σ₃ at F₃ H₃ hcl₃ hln₃ hx₃ ⊢
    have h9 := H₃.ctx.area
    unfold areaO at h9
    have h13 := H₃.ctx.procs
    have hdf := dfit_E (fs := fs) (P := fun f => (p f).P) (off_PF hf)
    obtain ⟨fu, h6, hb6, hg6⟩ := (H₃.ctx.sym f hf).fu
    have hfl := free_len H.nd H.fr
    have hlC := H.lenC
    have hn3 := H.num3
    have h66 := H₃.len
    have h66₁ := H₁.len
    wtm_at "go"
    refine sp_define (G.le (by omega)) (cs := cs) H₃.ctx.area h13 hdf (by rw [E_len]; show 16 + _ < _; omega) H₃.ctx.code H₃.ctx.shapes (H₃.ctx.sym f hf).i h6 hb6 hg6 (arOf_nn f) hcl₃ hx₃ (by omega) (by omega) (by omega) (fun x hx => ⟨by have := (hx₂ x hx).2.1; omega, by have := (hx₂ x hx).2.2; omega⟩) fun σ₄ t F₄ h11₄ hP₄ h13₄ => ?_
    have h65₃ := H₃.known
    have h65₄ : σ₄.get 65 = some (.dict (E [] fs fun f => (r f).R)) := (F₄.g 65 (by rw [h65₃]; rfl) (by omega) (by omega)).trans h65₃
    have hlt₄ := St.get_lt hP₄
    have hdf2 := dfit_E (base := []) (fs := fs) (P := fun f => (r f).R) (f := f) off_nil
    have hel : (E [] fs fun f => (r f).R).length < 1000 := by rw [E_len]; simp; omega
    have hnum0 := H.num0
    clear h9 h13 hdf
    wtm_at "go"
    try rw [rangeL_ints num m, ← hn₂]
    have hR65 : 65 ≠ ((σ₄.add (.list (toInts (cs.map (·.n))))).add (.list (toInts (cs.map (·.n))))).len := by simp only [St.len_add]; omega
    have hR65' := Ne.symm hR65
    have F₅ : Fr1 65 σ₄ ((((σ₄.add (.list (toInts (cs.map (·.n))))).add (.list (toInts (cs.map (·.n))))).add (.list [.str "static", .obj σ₄.len, .obj (σ₄.add (.list (toInts (cs.map (·.n))))).len, .bool false, .str ""])).put 65 (.dict (dput (.int f) (.obj ((σ₄.add (.list (toInts (cs.map (·.n))))).add (.list (toInts (cs.map (·.n))))).len) (E [] fs fun f => (r f).R)))) := ⟨fun j hj hne => by wtm_at "st", fun j hj hne => by wtm_at "st"⟩
    have gR : ((((σ₄.add (.list (toInts (cs.map (·.n))))).add (.list (toInts (cs.map (·.n))))).add (.list [.str "static", .obj σ₄.len, .obj (σ₄.add (.list (toInts (cs.map (·.n))))).len, .bool false, .str ""])).put 65 (.dict (dput (.int f) (.obj ((σ₄.add (.list (toInts (cs.map (·.n))))).add (.list (toInts (cs.map (·.n))))).len) (E [] fs fun f => (r f).R)))).get ((σ₄.add (.list (toInts (cs.map (·.n))))).add (.list (toInts (cs.map (·.n))))).len = some (.list [.str "static", .obj σ₄.len, .obj (σ₄.add (.list (toInts (cs.map (·.n))))).len, .bool false, .str ""]) := by wtm_at "st"
    have hN65 : 65 ≠ σ₄.len := by omega
    have gN : ((((σ₄.add (.list (toInts (cs.map (·.n))))).add (.list (toInts (cs.map (·.n))))).add (.list [.str "static", .obj σ₄.len, .obj (σ₄.add (.list (toInts (cs.map (·.n))))).len, .bool false, .str ""])).put 65 (.dict (dput (.int f) (.obj ((σ₄.add (.list (toInts (cs.map (·.n))))).add (.list (toInts (cs.map (·.n))))).len) (E [] fs fun f => (r f).R)))).get σ₄.len = some (.list (toInts (cs.map (·.n)))) := by wtm_at "st"
    have hL65 : 65 ≠ (σ₄.add (.list (toInts (cs.map (·.n))))).len := by simp only [St.len_add]; omega
    have gL : ((((σ₄.add (.list (toInts (cs.map (·.n))))).add (.list (toInts (cs.map (·.n))))).add (.list [.str "static", .obj σ₄.len, .obj (σ₄.add (.list (toInts (cs.map (·.n))))).len, .bool false, .str ""])).put 65 (.dict (dput (.int f) (.obj ((σ₄.add (.list (toInts (cs.map (·.n))))).add (.list (toInts (cs.map (·.n))))).len) (E [] fs fun f => (r f).R)))).get (σ₄.add (.list (toInts (cs.map (·.n))))).len = some (.list (toInts (cs.map (·.n)))) := by wtm_at "st"
    have g65 : ((((σ₄.add (.list (toInts (cs.map (·.n))))).add (.list (toInts (cs.map (·.n))))).add (.list [.str "static", .obj σ₄.len, .obj (σ₄.add (.list (toInts (cs.map (·.n))))).len, .bool false, .str ""])).put 65 (.dict (dput (.int f) (.obj ((σ₄.add (.list (toInts (cs.map (·.n))))).add (.list (toInts (cs.map (·.n))))).len) (E [] fs fun f => (r f).R)))).get 65 = some (.dict (dput (.int f) (.obj ((σ₄.add (.list (toInts (cs.map (·.n))))).add (.list (toInts (cs.map (·.n))))).len) (E [] fs fun f => (r f).R))) := by wtm_at "st"
    have l1 : (σ₄.add (.list (toInts (cs.map (·.n))))).len = σ₄.len + 1 := by simp only [St.len_add]
    have l2 : ((σ₄.add (.list (toInts (cs.map (·.n))))).add (.list (toInts (cs.map (·.n))))).len = σ₄.len + 2 := by simp only [St.len_add]
    generalize (((σ₄.add (.list (toInts (cs.map (·.n))))).add (.list (toInts (cs.map (·.n))))).add (.list [.str "static", .obj σ₄.len, .obj (σ₄.add (.list (toInts (cs.map (·.n))))).len, .bool false, .str ""])).put 65 (.dict (dput (.int f) (.obj ((σ₄.add (.list (toInts (cs.map (·.n))))).add (.list (toInts (cs.map (·.n))))).len) (E [] fs fun f => (r f).R))) = τ at F₅ gR gN gL g65 ⊢
    generalize ((σ₄.add (.list (toInts (cs.map (·.n))))).add (.list (toInts (cs.map (·.n))))).len = R at gR g65 l2 hR65 hR65' ⊢
    generalize (σ₄.add (.list (toInts (cs.map (·.n))))).len = L at gR gL l1 hL65 ⊢
    obtain ⟨fs', hfs'⟩ := new_fs (fs := fs) (f := f)
    have FT2 : FrT tg (fun t => t = .fix 11 ∨ t = .fix 13 ∨ t = .fix 65) σ₁ τ :=
      (F₂.tag.trans F₃.tag).trans ((F₄.tag (M := fun t => t = .fix 11 ∨ t = .fix 13 ∨ t = .fix 65) (.inr (.inl (H.ctx.tgF 13 (by omega) (by omega)))) (.inl (H.ctx.tgF 11 (by omega) (by omega)))).trans (F₅.tag (.inr (.inr (H.ctx.tgF 65 (by omega) (by omega))))))
    have hlR := codeR_len (arOf_nn f) (cs.map (·.n)) C.length
    rw [List.length_map, hcsl] at hlR
    have hxf : ∀ x ∈ cs, CdAt τ f x := fun x hx => (hx₃ x hx).keep fun j hj e => by
      have h1 := (hx₂ x hx).2.1
      have h2 := (hx₂ x hx).2.2
      have h3 : 66 ≤ j := by rcases e with rfl | rfl <;> omega
      have h4 := F₄.g j hj (by omega) (by omega)
      rw [F₅.g j (by rw [h4]; exact hj) (by omega), h4]
    have R' : Rep (newTag tg σ₁.len fun j => if j = σ₃.len then .own f 0 else if j = σ₂.len then .own f 1 else if j = R then .own f 2 else if j = σ₄.len then .own f 3 else .imm) τ cells (k + 1) b (C ++ (codeR (arOf f) (cs.map (·.n)) C.length).map Rw.v) w wl (num + m) fs'
        (upd p f ⟨"static", cs, some (C.length, cs.map (·.n)), false, 0, σ₃.len, σ₂.len, t⟩) (upd r f ⟨"static", cs.map (·.n), some (cs.map (·.n)), false, 0, R, σ₄.len, L⟩) := by
      have g13 : τ.get 13 = σ₄.get 13 := F₅.g 13 (by rw [h13₄]; rfl) (by omega)
      have g11 : τ.get 11 = σ₄.get 11 := F₅.g 11 (by rw [h11₄]; rfl) (by omega)
      have gP : τ.get σ₃.len = σ₄.get σ₃.len := F₅.g _ (by rw [hP₄]; rfl) (by omega)
      have gC4 : σ₄.get σ₂.len = σ₃.get σ₂.len := F₄.g _ (by rw [hcl₃]; rfl) (by omega) (by omega)
      have gC : τ.get σ₂.len = σ₄.get σ₂.len := F₅.g _ (by rw [gC4, hcl₃]; rfl) (by omega)
      refine H₁.step (f := f) FT2 (fun t h => ?_) (fun j h => newTag_old (St.get_lt' h)) hfs' hf (by rw [g11]; exact h11₄) ⟨_, rfl⟩ codeRow_mem ?_ ?_ ?_ ?_ (.inl rfl) (fun h => by cases h) ?_ ?_ ⟨rfl, rfl, rfl, rfl, rfl⟩ (by omega) (by omega) ?_
      · rcases h with h | h | h
        · exact .inl h
        · exact .inr (.inl h)
        · exact .inr (.inr (.inl h))
      · rw [List.length_append, List.length_map]; omega
      · rw [g13, h13₄, dput_new_fs (off_PF hf) H.nd hfs', updP_comm]
      · rw [g65, dput_new_fs off_nil H.nd hfs', updR_comm]
      · rw [FT2.g w (by rw [H₁.wait]; rfl) (by rw [H.tw]; simp)]; exact H₁.wait
      · refine ⟨by rw [gP]; exact hP₄, by rw [gC, gC4]; exact hcl₃, hxf, fun a l e => ?_, .inl rfl, by show 0 < 3; omega, by show cs.length < 1000; omega, ?_, ?_, fun x hx => ?_⟩
        · cases e
          exact ⟨⟨C, [], rfl, by simp⟩, by simp; omega, by omega⟩
        · show newTag _ _ _ σ₃.len = _
          rw [newTag_new (by omega), if_pos rfl]
        · show newTag _ _ _ σ₂.len = _
          rw [newTag_new (by omega), if_neg (by omega), if_pos rfl]
        · obtain ⟨h1, h2⟩ := hxlt x hx
          obtain ⟨_, h3, h4⟩ := hx₂ x hx
          rw [newTag_new h3, newTag_new h4, if_neg (by omega), if_neg (by omega), if_neg (by omega), if_neg (by omega), if_neg (by omega), if_neg (by omega), if_neg (by omega), if_neg (by omega)]
          exact ⟨rfl, rfl⟩
      · refine ⟨gR, gN, fun l e => ?_, ?_, ?_⟩
        · cases e
          refine ⟨gL, ?_⟩
          show newTag _ _ _ L = _
          rw [newTag_new (by omega), if_neg (by omega), if_neg (by omega), if_neg (by omega), if_neg (by omega)]
        · show newTag _ _ _ R = _
          rw [newTag_new (by omega), if_neg (by omega), if_neg (by omega), if_pos rfl]
        · show newTag _ _ _ σ₄.len = _
          rw [newTag_new (by omega), if_neg (by omega), if_neg (by omega), if_neg (by omega), if_pos rfl]
      · show (cs.length : Int) ≤ num + m
        have := H.num0
        omega
    refine q _ _ _ b _ w wl (num + m) fs' _ _ R' (fun o x ho hto => ?_) ⟨_, rfl⟩ ⟨rfl, rfl, rfl, rfl, rfl, rfl, rfl, rfl, rfl, rfl, trivial⟩ h22
    have h7 := FT.g o (by rw [ho]; rfl) (by rw [hto]; simp)
    rw [FT2.g o (by rw [h7, ho]; rfl) (by rw [hto]; simp), h7]; exact ho
end
end
section
noncomputable def IS.iteT : IS → ISs
  | .ite _ t _ => t
  | _ => .nil
noncomputable def IS.iteE : IS → ISs
  | .ite _ _ e => e
  | _ => .nil
noncomputable def ISs.app : ISs → ISs → ISs
  | .nil, b => b
  | .cons s r, b => .cons s (r.app b)
noncomputable def ISs.upto : ISs → Nat → ISs
  | _, 0 => .nil
  | .cons s r, n + 1 => .cons s (r.upto n)
  | .nil, _ => .nil
theorem wSs_app {Γ : Env'} : ∀ {a b : ISs} {ℓ : Loc} {σ : St} {Q : Fl → Loc → St → Prop}, wSs Γ (a.app b) ℓ σ Q = wSs Γ a ℓ σ fun fl ℓ σ => thenFl fl (wSs Γ b ℓ σ Q) fun fl => Q fl ℓ σ
  | .nil, b, ℓ, σ, Q => rfl
  | .cons s r, b, ℓ, σ, Q => by
    show wS Γ s ℓ σ (fun fl ℓ σ => thenFl fl (wSs Γ (r.app b) ℓ σ Q) fun fl => Q fl ℓ σ) = wS Γ s ℓ σ (fun fl ℓ σ => thenFl fl (wSs Γ r ℓ σ fun fl ℓ σ => thenFl fl (wSs Γ b ℓ σ Q) fun fl => Q fl ℓ σ) fun fl => thenFl fl (wSs Γ b ℓ σ Q) fun fl => Q fl ℓ σ)
    congr 1
    funext fl ℓ σ
    cases fl with
    | next => exact wSs_app
    | ret v => rfl
    | exc v => rfl
theorem ite_walk {Γ : Env'} {c : IE} {t e : ISs} {ℓ : Loc} {σ : St} {K : Fl → Loc → St → Prop} (h : ∀ (F F' : St → Prop), F σ → wE Γ c ℓ σ fun v σ => boolV v fun b => ifB b (F σ) (F' σ)) (ht : wSs Γ t ℓ σ K) : wS Γ (.ite c t e) ℓ σ K :=
  h (fun σ => wSs Γ t ℓ σ K) (fun σ => wSs Γ e ℓ σ K) ht
noncomputable def blk : ISs := deedIf.iteT
noncomputable def phA : ISs := blk.upto 3
noncomputable def phB : ISs := blk.from 3
theorem blk_eq : blk = phA.app phB := rfl
section
variable {Γ : Env'} {tg : Tg} {σ : St} {cells : List Int} {k : Nat} {b : Bool} {C : List V} {w ob : Nat} {wl : List Int} {num : Int} {fs : List Int} {p : Int → PEn} {r : Int → REn} {ℓ : Loc} {K : Fl → Loc → St → Prop} {f : Int}
theorem phB_ok {kd : Str} (G : Ok 11 Γ) (H : Rep tg σ cells k b C w wl num fs p r) (hk : k < 16) (hf : f ∈ fs) (hkd : kd = "static" ∨ kd = "dynamic") (hℓ : Has ℓ (L0 ob num ++ [(12, .int f), (14, .str kd), (15, .obj (p f).P)])) (h22 : ℓ 22 = none) (q : Goes tg σ cells k C ob K) : wSs Γ phB ℓ σ K := by
  obtain ⟨ℓ, rfl⟩ := hℓ.ex
  have h22 : ℓ 22 = none := h22
  have hff := H.fr f hf
  have h9 := H.ctx.area
  unfold areaO at h9
  have h65 := H.known
  have hdf2 := dfit_E (base := []) (fs := fs) (P := fun f => (r f).R) (f := f) off_nil
  have hdg2 := (dget_E (base := []) (fs := fs) (P := fun f => (r f).R) (f := f) off_nil).1 hf
  have hPf := H.hP f hf
  have hRf := H.hR f hf
  have hMf := H.hM f hf
  have hP := hPf.P
  unfold PEn.o procO at hP
  have hR := hRf.R
  rw [← hMf.kind] at hR
  have idle : K .next = K .next := rfl
  have hC := hPf.oC
  unfold cdsO at hC
  have hN := hRf.N
  have hW := H.wait
  have t65 := H.ctx.tgF 65 (by omega) (by omega)
  have t9 := H.ctx.tgF 9 (by omega) (by omega)
  have nPC : (p f).P ≠ (p f).C := ne_of_tag hPf.tP hPf.tC (by simp)
  have nCP := Ne.symm nPC
  have nPR : (p f).P ≠ (r f).R := ne_of_tag hPf.tP hRf.tR (by simp)
  have nRP := Ne.symm nPR
  have nPN : (p f).P ≠ (r f).N := ne_of_tag hPf.tP hRf.tN (by simp)
  have nNP := Ne.symm nPN
  have nPW : (p f).P ≠ w := ne_of_tag hPf.tP H.tw (by simp)
  have nWP := Ne.symm nPW
  have nPA : (p f).P ≠ 65 := ne_of_tag hPf.tP t65 (by simp)
  have nAP := Ne.symm nPA
  have nPB : (p f).P ≠ 9 := ne_of_tag hPf.tP t9 (by simp)
  have nBP := Ne.symm nPB
  have nCR : (p f).C ≠ (r f).R := ne_of_tag hPf.tC hRf.tR (by simp)
  have nRC := Ne.symm nCR
  have nCN : (p f).C ≠ (r f).N := ne_of_tag hPf.tC hRf.tN (by simp)
  have nNC := Ne.symm nCN
  have nCW : (p f).C ≠ w := ne_of_tag hPf.tC H.tw (by simp)
  have nWC := Ne.symm nCW
  have nCA : (p f).C ≠ 65 := ne_of_tag hPf.tC t65 (by simp)
  have nAC := Ne.symm nCA
  have nCB : (p f).C ≠ 9 := ne_of_tag hPf.tC t9 (by simp)
  have nBC := Ne.symm nCB
  have nRN : (r f).R ≠ (r f).N := ne_of_tag hRf.tR hRf.tN (by simp)
  have nNR := Ne.symm nRN
  have nRW : (r f).R ≠ w := ne_of_tag hRf.tR H.tw (by simp)
  have nWR := Ne.symm nRW
  have nRA : (r f).R ≠ 65 := ne_of_tag hRf.tR t65 (by simp)
  have nAR := Ne.symm nRA
  have nRB : (r f).R ≠ 9 := ne_of_tag hRf.tR t9 (by simp)
  have nBR := Ne.symm nRB
  have nNW : (r f).N ≠ w := ne_of_tag hRf.tN H.tw (by simp)
  have nWN := Ne.symm nNW
  have nNA : (r f).N ≠ 65 := ne_of_tag hRf.tN t65 (by simp)
  have nAN := Ne.symm nNA
  have nNB : (r f).N ≠ 9 := ne_of_tag hRf.tN t9 (by simp)
  have nBN := Ne.symm nNB
  have nWA : w ≠ 65 := ne_of_tag H.tw t65 (by simp)
  have nAW := Ne.symm nWA
  have nWB : w ≠ 9 := ne_of_tag H.tw t9 (by simp)
  have nBW := Ne.symm nWB
  have nAB : 65 ≠ 9 := ne_of_tag t65 t9 (by simp)
  have nBA := Ne.symm nAB
  have mm : ∀ j, ¬ (tg j = .wait ∨ ∃ i, tg j = .own f i) → (p f).P ≠ j ∧ (p f).C ≠ j ∧ (r f).R ≠ j ∧ (r f).N ≠ j ∧ w ≠ j := fun j hm =>
    ⟨fun e => hm (by rw [← e, hPf.tP]; exact .inr ⟨0, rfl⟩), fun e => hm (by rw [← e, hPf.tC]; exact .inr ⟨1, rfl⟩), fun e => hm (by rw [← e, hRf.tR]; exact .inr ⟨2, rfl⟩), fun e => hm (by rw [← e, hRf.tN]; exact .inr ⟨3, rfl⟩), fun e => hm (by rw [← e, H.tw]; exact .inl rfl)⟩
  have hcnt := H.cnt f hf
  have hn3 := H.num3
  have hlw := H.lenW
  have hlC := H.lenC
  have hcl : (cdsO (p f).cs) = cdsO (p f).cs := rfl
  have hcl2 : ((p f).cs.map fun x => V.obj x.c).length < 1000 := by have := hPf.small; simpa using this
  have hnl : (toInts (r f).nums).length < 1000 := by
    have := hPf.small
    rw [toInts, List.length_map, ← hMf.nums, List.length_map]; exact this
  have hwl2 : (toInts wl).length < 1000 := by rw [toInts, List.length_map]; omega
  have fin0 : (p f).kind = "static" → ∀ (S : Nat) (τ : St) (ℓ' : Loc) (wl' : List Int), S = σ.len + 1 → FrT tg (fun t => t = .wait ∨ ∃ i, t = .own f i) σ τ → τ.get S = some (codeO f σ.len) → τ.get σ.len = some (.list [(Rw.pc num).v, Rw.pr.v]) →
      τ.get (p f).C = some (cdsO ((p f).cs ++ [⟨S, σ.len, num⟩])) → τ.get (r f).N = some (.list (toInts ((r f).nums ++ [num]))) → τ.get (p f).P = some (procO f "static" (entI (p f).ent) (p f).C (p f).T ((p f).mark == 1) ((p f).mark == 2) true) →
      τ.get (r f).R = some (.list [.str "static", .obj (r f).N, lkV (r f).L (r f).lk, .bool true, .str (markS (r f).mark)]) → τ.get w = some (.list (toInts wl')) → (wl' = wl ∨ wl' = wl ++ [f]) → f ∈ wl' → Has ℓ' (L0 ob (num + 1)) → ℓ' 22 = none → K .next ℓ' τ := by
    intro hs S τ ℓ' wl' hS F gS gI gC gN gP gR gw hwl' hfw hL hL22
    have nfx : ∀ i, ¬ (Tag.fix i = .wait ∨ ∃ j, Tag.fix i = .own f j) := fun i z => by rcases z with z | ⟨_, z⟩ <;> cases z
    have nim : ¬ (Tag.imm = .wait ∨ ∃ j, Tag.imm = .own f j) := fun z => by rcases z with z | ⟨_, z⟩ <;> cases z
    have lS := St.get_lt gS
    have cdx : ∀ x ∈ (p f).cs, CdAt τ f x := fun x hx => (hPf.cs x hx).keep fun j hj e => F.g j hj (by
      obtain ⟨a, c⟩ := hPf.tcs x hx
      rcases e with rfl | rfl
      · rw [a]; exact nim
      · rw [c]; exact nim)
    have old : ∀ j, (σ.get j).isSome = true → newTag tg σ.len (fun ζ => .imm) j = tg j := fun j h => newTag_old (St.get_lt' h)
    have R' : Rep (newTag tg σ.len fun ζ => .imm) τ cells (k + 1) b C w wl' (num + 1) fs (upd p f { p f with cs := (p f).cs ++ [⟨S, σ.len, num⟩], pend := true }) (upd r f { r f with nums := (r f).nums ++ [num], pend := true }) := by
      refine H.step (f := f) (pf := { p f with cs := (p f).cs ++ [⟨S, σ.len, num⟩], pend := true }) (rf := { r f with nums := (r f).nums ++ [num], pend := true }) F (fun t h => ?_) old (.inl ⟨rfl, hf⟩) hff (H.fix F (by omega) (by omega) (nfx _) H.ctx.code) ⟨[], by simp⟩ (fun x h => .inl h) (by omega) ?_ ?_ gw hwl' (fun ζ => hfw) ?_ ?_ ?_ (by omega) (by omega) ?_
      · rcases h with h | h
        · exact .inr (.inr (.inr (.inl h)))
        · exact .inr (.inr (.inr (.inr h)))
      · rw [upd_P (p := p) (f := f) (x := { p f with cs := (p f).cs ++ [⟨S, σ.len, num⟩], pend := true }) rfl]; exact H.fix F (by omega) (by omega) (nfx _) H.ctx.procs
      · rw [upd_R (r := r) (f := f) (x := { r f with nums := (r f).nums ++ [num], pend := true }) rfl]; exact H.fix F (by omega) (by omega) (nfx _) H.known
      · refine ⟨?_, gC, fun x hx => ?_, hPf.led, hPf.kd, hPf.mrk, ?_, ?_, ?_, fun x hx => ?_⟩
        · show τ.get (p f).P = some (procO f (p f).kind (entI (p f).ent) (p f).C (p f).T ((p f).mark == 1) ((p f).mark == 2) true)
          rw [hs]; exact gP
        · rcases List.mem_append.mp hx with h | h
          · exact cdx x h
          · rw [List.mem_singleton.mp h]; exact ⟨gS, gI⟩
        · show ((p f).cs ++ [_]).length < 1000
          rw [List.length_append, List.length_singleton]; omega
        · show newTag _ _ _ (p f).P = _
          rw [old _ (by rw [hPf.P]; rfl)]; exact hPf.tP
        · show newTag _ _ _ (p f).C = _
          rw [old _ (by rw [hPf.oC]; rfl)]; exact hPf.tC
        · rcases List.mem_append.mp hx with h | h
          · rw [old _ (by rw [(hPf.cs x h).c]; rfl), old _ (by rw [(hPf.cs x h).i]; rfl)]; exact hPf.tcs x h
          · rw [List.mem_singleton.mp h]
            exact ⟨newTag_new (by show σ.len ≤ S; omega), newTag_new (Nat.le_refl _)⟩
      · refine ⟨?_, gN, fun l e => ?_, ?_, ?_⟩
        · show τ.get (r f).R = some (.list [.str (r f).kind, .obj (r f).N, lkV (r f).L (r f).lk, .bool true, .str (markS (r f).mark)])
          rw [← hMf.kind, hs]; exact gR
        · obtain ⟨a, c⟩ := hRf.L l e
          refine ⟨?_, ?_⟩
          · show τ.get (r f).L = _
            rw [F.g _ (by rw [a]; rfl) (by rw [c]; exact nim)]; exact a
          · show newTag _ _ _ (r f).L = _
            rw [old _ (by rw [a]; rfl)]; exact c
        · show newTag _ _ _ (r f).R = _
          rw [old _ (by rw [hRf.R]; rfl)]; exact hRf.tR
        · show newTag _ _ _ (r f).N = _
          rw [old _ (by rw [hRf.N]; rfl)]; exact hRf.tN
      · exact ⟨hMf.kind, by show ((p f).cs ++ [_]).map _ = _; rw [List.map_append, hMf.nums]; rfl, hMf.lk, rfl, hMf.mark⟩
      · show (((p f).cs ++ [_]).length : Int) ≤ _
        rw [List.length_append, List.length_singleton]; omega
    exact q _ _ _ b C w wl' (num + 1) fs _ _ R' (fun o x ho hto => by rw [F.g o (by rw [ho]; rfl) (by rw [hto]; exact nim)]; exact ho) ⟨[], by simp⟩ hL hL22
  simp only [phB, blk, deedIf, loopB, f31, ISs.nth, IS.forB, IS.iteT, ISs.from]
  rcases hPf.kd with hs | hs
  · rw [hs] at hP hR
    rcases hkd with rfl | rfl
    · cases hpe : (p f).pend with
      | false =>
        rw [hpe] at hP
        wtm_at "go"
        refine sp_codeinit (G.le (by omega)) (by wtm_at "st") fun σ₃ F₃ hl₃ hc₃ => ?_
        obtain ⟨f3, f3'⟩ := F₃
        have FF : Fr σ σ₃ := ⟨fun j hj => by wtm_at "st", fun j hj => by wtm_at "st"⟩
        have fin := fin0 hs
        clear hl₃ fin0
        wtm_at "go"
        refine fin (σ.add (.list [.tup [.str "put_constant", .tup [.int 5, .int num], .tup [.str "x", .int 1]], .tup [.str "proceed"]])).len _ _ (wl ++ [f]) (St.len_add _ _) ⟨fun j hj hm => ?_, fun j hj hm => ?_⟩ (by wtm_at "st") (by wtm_at "st" <;> rfl) (by wtm_at "st"; simp [cdsO]) (by wtm_at "st"; simp [toInts]) (by wtm_at "st" <;> rfl) (by wtm_at "st" <;> rfl) (by wtm_at "st"; simp [toInts]) (.inr rfl) (by simp) ⟨rfl, rfl, rfl, rfl, rfl, rfl, rfl, rfl, rfl, rfl, trivial⟩ h22
        · obtain ⟨m1, m2, m3, m4, m5⟩ := mm j hm
          wtm_at "st"
        · obtain ⟨m1, m2, m3, m4, m5⟩ := mm j hm
          wtm_at "st"
      | true =>
        rw [hpe] at hP
        wtm_at "go"
        refine sp_codeinit (G.le (by omega)) (by wtm_at "st") fun σ₃ F₃ hl₃ hc₃ => ?_
        obtain ⟨f3, f3'⟩ := F₃
        have FF : Fr σ σ₃ := ⟨fun j hj => by wtm_at "st", fun j hj => by wtm_at "st"⟩
        have fin := fin0 hs
        clear hl₃ fin0
        wtm_at "go"
        refine fin (σ.add (.list [.tup [.str "put_constant", .tup [.int 5, .int num], .tup [.str "x", .int 1]], .tup [.str "proceed"]])).len _ _ wl (St.len_add _ _) ⟨fun j hj hm => ?_, fun j hj hm => ?_⟩ (by wtm_at "st") (by wtm_at "st" <;> rfl) (by wtm_at "st"; simp [cdsO]) (by wtm_at "st"; simp [toInts]) (by wtm_at "st" <;> rfl) (by wtm_at "st" <;> rfl) (by wtm_at "st") (.inl rfl) (H.pendW f hf hpe) ⟨rfl, rfl, rfl, rfl, rfl, rfl, rfl, rfl, rfl, rfl, trivial⟩ h22
        · obtain ⟨m1, m2, m3, m4, m5⟩ := mm j hm
          wtm_at "st"
        · obtain ⟨m1, m2, m3, m4, m5⟩ := mm j hm
          wtm_at "st"
    · skip
      wtm_at "go"
      exact q _ _ tg b C w wl num fs p r (H.idle (Fr.refl _) (by omega)) (fun ζ ζ h ζ => h) ⟨[], by simp⟩ ⟨rfl, rfl, rfl, rfl, rfl, rfl, rfl, rfl, rfl, rfl, trivial⟩ h22
  · rw [hs] at hP hR
    wtm_at "go"
    exact q _ _ tg b C w wl num fs p r (H.idle (Fr.refl _) (by omega)) (fun ζ ζ h ζ => h) ⟨[], by simp⟩ ⟨rfl, rfl, rfl, rfl, rfl, rfl, rfl, rfl, rfl, rfl, trivial⟩ h22
end
end
section
theorem dfit_dput {k : V} {v : V} {a : Int} {es : List (V × V)} (h : dfit (.int a) es) (hk : keyKind k = 1) : dfit (.int a) (dput k v es) := by
  refine ⟨h.1, ?_⟩
  have h2 := h.2
  clear h
  induction es with
  | nil => intro e he; rw [List.mem_singleton.mp he]; exact hk
  | cons x es ih =>
    obtain ⟨x, u⟩ := x
    intro e he
    have he : e ∈ (if eqKey x k then (x, v) :: es else (x, u) :: dput k v es) := he
    split at he
    · rcases List.mem_cons.mp he with rfl | he
      · exact h2 (x, u) (.head _)
      · exact h2 e (.tail _ he)
    · rcases List.mem_cons.mp he with rfl | he
      · exact h2 (x, u) (.head _)
      · exact ih (fun e he => h2 e (.tail _ he)) e he
section
variable {Γ : Env'} {tg : Tg} {σ : St} {cells : List Int} {k : Nat} {b : Bool} {C : List V} {w ob : Nat} {wl : List Int} {num : Int} {fs : List Int} {p : Int → PEn} {r : Int → REn} {ℓ : Loc} {K : Fl → Loc → St → Prop} {f : Int}
theorem starts_free {f : Int} (h : freeF f) : PySem.Txt.startswith (txOf f) "$" = false := by rcases h with rfl | rfl | rfl <;> rfl
theorem phA_ok {kd : Str} {d : Int} (G : Ok 11 Γ) (H : Rep tg σ cells k b C w wl num fs p r) (hk : k < 16) (hf : freeF f) (hkd : kd = "static" ∧ (d = 0 ∨ d = 7) ∨ kd = "dynamic" ∧ d = 4) (hℓ : Has ℓ (L0 ob num ++ [(11, .int d), (12, .int f)])) (h22 : ℓ 22 = none)
    (q : ∀ ℓ' σ' tg' fs' p' r', Rep tg' σ' cells k b C w wl num fs' p' r' → f ∈ fs' → (∀ o x, σ.get o = some x → tg o = .imm → σ'.get o = some x ∧ tg' o = .imm) → Has ℓ' (L0 ob num ++ [(12, .int f), (14, .str kd), (15, .obj (p' f).P)]) → ℓ' 22 = none → K .next ℓ' σ') : wSs Γ phA ℓ σ K := by
  obtain ⟨ℓ, rfl⟩ := hℓ.ex
  have h22 : ℓ 22 = none := h22
  have h9 := H.ctx.area
  have h9' := h9
  unfold areaO at h9'
  have h13 := H.ctx.procs
  have h65 := H.known
  have hdf := dfit_E (fs := fs) (P := fun f => (p f).P) (off_PF hf)
  have hdf2 := dfit_E (base := []) (fs := fs) (P := fun f => (r f).R) (f := f) off_nil
  have hst := starts_free hf
  have hFu := H.ctx.sym f hf
  have hfl := free_len H.nd H.fr
  have hEl : (E PF fs fun f => (p f).P).length < 1000 := by rw [E_len]; show 16 + _ < _; omega
  have hel : (E [] fs fun f => (r f).R).length < 1000 := by rw [E_len]; simp; omega
  have h66 := H.len
  simp only [phA, blk, deedIf, loopB, f31, ISs.nth, IS.forB, IS.iteT, ISs.upto]
  by_cases hold : f ∈ fs ∧ (p f).mark ≠ 1
  · obtain ⟨hm, hmk⟩ := hold
    have hdg := (dget_E (base := PF) (fs := fs) (P := fun f => (p f).P) (off_PF hf)).1 hm
    have hdg2 := (dget_E (base := []) (fs := fs) (P := fun f => (r f).R) (f := f) off_nil).1 hm
    have hPf := H.hP f hm
    have hRf := H.hR f hm
    have hMf := H.hM f hm
    have hP := hPf.P
    unfold PEn.o at hP
    have hm1 : ((p f).mark == 1) = false := by simpa using hmk
    rw [hm1] at hP
    have hR := hRf.R
    rw [← hMf.mark] at hR
    have hmr := hPf.mrk
    have hms : (p f).mark = 0 ∨ (p f).mark = 2 := by omega
    clear hmk
    rcases hkd with ⟨rfl, rfl | rfl⟩ | ⟨rfl, rfl⟩
    all_goals
      wtm_at "go"
      refine sp_writ_old (G.le (by omega)) h9 h13 hdf hdg hP hPf.kd hFu hst ?_
      rcases hms with hms | hms <;> rw [hms] at hR
      all_goals
        wtm_at "go"
        exact q _ _ tg fs p r H hm (fun ζ ζ h ht => ⟨h, ht⟩) ⟨rfl, rfl, rfl, rfl, rfl, rfl, rfl, rfl, rfl, rfl, rfl, rfl, rfl, trivial⟩ h22
  · have hg : dget (.int f) (E PF fs fun f => (p f).P) = none ∨ ∃ P kind entry c t hel pend, dget (.int f) (E PF fs fun f => (p f).P) = some (.obj P) ∧ σ.get P = some (procO f kind entry c t true hel pend) ∧ (kind = "static" ∨ kind = "dynamic") := by
      by_cases hm : f ∈ fs
      · have hmk : (p f).mark = 1 := by
          by_cases h : (p f).mark = 1
          · exact h
          · exact absurd ⟨hm, h⟩ hold
        have hP := (H.hP f hm).P
        unfold PEn.o at hP
        rw [hmk] at hP
        exact .inr ⟨_, _, _, _, _, _, _, (dget_E (off_PF hf)).1 hm, hP, (H.hP f hm).kd⟩
      · exact .inl ((dget_E (off_PF hf)).2 hm)
    have fin : ∀ (σ₁ : St) (c t : Nat) (τ : St) (R : Nat), Fr1 13 σ σ₁ → σ₁.get σ.len = some (procO f kd (-1) c t false false false) → σ₁.get c = some (cdsO []) → σ.len < c → σ₁.get 13 = some (.dict (dput (.int f) (.obj σ.len) (E PF fs fun f => (p f).P))) →
        R = σ₁.len + 1 → Fr1 65 σ₁ τ → τ.get R = some (.list [.str kd, .obj σ₁.len, .none, .bool false, .str ""]) → τ.get σ₁.len = some (.list []) → τ.get 65 = some (.dict (dput (.int f) (.obj R) (E [] fs fun f => (r f).R))) →
        ∀ ℓ', Has ℓ' (L0 ob num ++ [(12, .int f), (14, .str kd), (15, .obj σ.len)]) → ℓ' 22 = none → K .next ℓ' τ := by
      intro σ₁ c t τ R F₁ gP gc hc g13 hR F₂ gR gN g65 ℓ' hL hL22
      obtain ⟨fs', hfs'⟩ := new_fs (fs := fs) (f := f)
      have FT : FrT tg (fun t => t = .fix 11 ∨ t = .fix 13 ∨ t = .fix 65) σ τ := (F₁.tag (.inr (.inl (H.ctx.tgF 13 (by omega) (by omega))))).trans (F₂.tag (.inr (.inr (H.ctx.tgF 65 (by omega) (by omega)))))
      have hl1 := St.get_lt gP
      have hl2 := St.get_lt gc
      have hlC := H.lenC
      have h65n : ∀ j, 66 ≤ j → (σ₁.get j).isSome = true → τ.get j = σ₁.get j := fun j h1 h2 => F₂.g j h2 (by omega)
      have R' : Rep (newTag tg σ.len fun j => if j = σ.len then .own f 0 else if j = c then .own f 1 else if j = R then .own f 2 else if j = σ₁.len then .own f 3 else .imm) τ cells k b C w wl num fs' (upd p f ⟨kd, [], none, false, 0, σ.len, c, t⟩) (upd r f ⟨kd, [], none, false, 0, R, σ₁.len, 0⟩) := by
        refine H.stepG (f := f) FT (fun t h => ?_) (fun j h => newTag_old (St.get_lt' h)) hfs' hf ?_ ⟨[], by simp⟩ (fun x h => .inl h) hlC ?_ ?_ ?_ (.inl rfl) H.lenW (fun h => by cases h) ?_ ?_ ⟨rfl, rfl, rfl, rfl, rfl⟩ (Int.le_refl _) H.num3 ?_
        · rcases h with h | h | h
          · exact .inl h
          · exact .inr (.inl h)
          · exact .inr (.inr (.inl h))
        · have e1 := F₁.g 11 (by rw [H.ctx.code]; rfl) (by omega)
          rw [F₂.g 11 (by rw [e1, H.ctx.code]; rfl) (by omega), e1]; exact H.ctx.code
        · rw [F₂.g 13 (by rw [g13]; rfl) (by omega), g13, dput_new_fs (off_PF hf) H.nd hfs', updP_comm]
        · rw [g65, dput_new_fs off_nil H.nd hfs', updR_comm]
        · rw [FT.g w (by rw [H.wait]; rfl) (by rw [H.tw]; simp)]; exact H.wait
        · refine ⟨?_, ?_, (fun x h => by cases h), (fun a l e => by cases e), ?_, by show 0 < 3; omega, by show 0 < 1000; omega, ?_, ?_, (fun x h => by cases h)⟩
          · show τ.get σ.len = _
            rw [h65n _ (by omega) (by rw [gP]; rfl), gP]; rfl
          · show τ.get c = _
            rw [h65n _ (by omega) (by rw [gc]; rfl), gc]
          · rcases hkd with ⟨h, _⟩ | ⟨h, _⟩
            · exact .inl h
            · exact .inr h
          · show newTag _ _ _ σ.len = _
            rw [newTag_new (Nat.le_refl _), if_pos rfl]
          · show newTag _ _ _ c = _
            rw [newTag_new (by omega), if_neg (by omega), if_pos rfl]
        · refine ⟨gR, gN, (fun l e => by cases e), ?_, ?_⟩
          · show newTag _ _ _ R = _
            rw [newTag_new (by omega), if_neg (by omega), if_neg (by omega), if_pos rfl]
          · show newTag _ _ _ σ₁.len = _
            rw [newTag_new (by omega), if_neg (by omega), if_neg (by omega), if_neg (by omega), if_pos rfl]
        · exact H.num0
      refine q _ _ _ fs' _ _ R' ?_ (fun o x ho hto => ⟨?_, ?_⟩) ?_ hL22
      · rcases hfs' with ⟨rfl, h⟩ | ⟨rfl, _⟩
        · exact h
        · simp
      · rw [FT.g o (by rw [ho]; rfl) (by rw [hto]; simp)]; exact ho
      · rw [newTag_old (St.get_lt ho)]; exact hto
      · rw [upd_same]; exact hL
    clear hdf
    by_cases hm : f ∈ fs
    · have hmk : (p f).mark = 1 := by
        by_cases h : (p f).mark = 1
        · exact h
        · exact absurd ⟨hm, h⟩ hold
      have hdg2 := (dget_E (base := []) (fs := fs) (P := fun f => (r f).R) (f := f) off_nil).1 hm
      have hR := (H.hR f hm).R
      rw [← (H.hM f hm).mark, hmk] at hR
      have hR13 : 13 ≠ (r f).R := ne_of_tag (H.ctx.tgF 13 (by omega) (by omega)) (H.hR f hm).tR (by simp)
      clear hmk hold
      rcases hkd with ⟨rfl, rfl | rfl⟩ | ⟨rfl, rfl⟩
      all_goals
        wtm_at "go"
        refine sp_writ_new (G.le (by omega)) h9 h13 (dfit_E (off_PF hf)) hEl hg hFu hst fun σ₁ c t F₁ gP gc hc g13 => ?_
        have fin := fin σ₁ c t
        have F₁' := F₁
        obtain ⟨f1, f1'⟩ := F₁
        have hlt := St.get_lt gP
        have n65 : 65 ≠ σ₁.len := by omega
        have n65' : 65 ≠ (σ₁.add (.list [])).len := by rw [St.len_add]; omega
        clear hg
        wtm_at "go"
        refine fin _ _ F₁' gP gc hc g13 (St.len_add σ₁ (.list [])) ⟨fun j hj hne => by wtm_at "st", fun j hj hne => by wtm_at "st"⟩ (by wtm_at "st") (by wtm_at "st") (by wtm_at "st") _ ⟨rfl, rfl, rfl, rfl, rfl, rfl, rfl, rfl, rfl, rfl, rfl, rfl, rfl, trivial⟩ h22
    · have hdg2 := (dget_E (base := []) (fs := fs) (P := fun f => (r f).R) (f := f) off_nil).2 hm
      clear hold
      rcases hkd with ⟨rfl, rfl | rfl⟩ | ⟨rfl, rfl⟩
      all_goals
        wtm_at "go"
        refine sp_writ_new (G.le (by omega)) h9 h13 (dfit_E (off_PF hf)) hEl hg hFu hst fun σ₁ c t F₁ gP gc hc g13 => ?_
        have fin := fin σ₁ c t
        have F₁' := F₁
        obtain ⟨f1, f1'⟩ := F₁
        have hlt := St.get_lt gP
        have n65 : 65 ≠ σ₁.len := by omega
        have n65' : 65 ≠ (σ₁.add (.list [])).len := by rw [St.len_add]; omega
        clear hg
        wtm_at "go"
        refine fin _ _ F₁' gP gc hc g13 (St.len_add σ₁ (.list [])) ⟨fun j hj hne => by wtm_at "st", fun j hj hne => by wtm_at "st"⟩ (by wtm_at "st") (by wtm_at "st") (by wtm_at "st") _ ⟨rfl, rfl, rfl, rfl, rfl, rfl, rfl, rfl, rfl, rfl, rfl, rfl, rfl, trivial⟩ h22
theorem deed047 {d : Int} (G : Ok 11 Γ) (H : Rep tg σ cells k b C w wl num fs p r) (hk : k < 16) (hf : freeF f) (hd : d = 0 ∨ d = 4 ∨ d = 7) (hℓ : Has ℓ (L0 ob num ++ [(11, .int d), (12, .int f)])) (h22 : ℓ 22 = none) (q : Goes tg σ cells k C ob K) : wS Γ deedIf ℓ σ K := by
  have hcond : wS Γ (.ite (.bop .Or (.cons (.cmp .Eq (.loc 11) (.val (.int 0))) (.cons (.cmp .Eq (.loc 11) (.val (.int 4))) (.cons (.cmp .Eq (.loc 11) (.val (.int 7))) .nil)))) blk deedIf.iteE) ℓ σ K := by
    refine ite_walk (fun F F' hF => ?_) ?_
    · obtain ⟨ℓ, rfl⟩ := hℓ.ex
      rcases hd with rfl | rfl | rfl
      all_goals
        exact hF
    · rw [blk_eq, wSs_app]
      have fin : ∀ kd : Str, (kd = "static" ∧ (d = 0 ∨ d = 7) ∨ kd = "dynamic" ∧ d = 4) → wSs Γ phA ℓ σ fun fl ℓ σ => thenFl fl (wSs Γ phB ℓ σ K) fun fl => K fl ℓ σ := fun kd hkd => by
        refine phA_ok G H hk hf hkd hℓ h22 fun ℓ' σ' tg' fs' p' r' H' hf' him hL h22' => ?_
        show wSs Γ phB ℓ' σ' K
        refine phB_ok G H' hk hf' (hkd.imp (·.1) (·.1)) hL h22' fun ℓ₂ σ₂ tg₂ b₂ C₂ w₂ wl₂ num₂ fs₂ p₂ r₂ R₂ k₂ hX h0 h1 => q ℓ₂ σ₂ tg₂ b₂ C₂ w₂ wl₂ num₂ fs₂ p₂ r₂ R₂ (fun o x ho hto => ?_) hX h0 h1
        obtain ⟨a, c⟩ := him o x ho hto
        exact k₂ o x a c
      rcases hd with hd | hd | hd
      · exact fin "static" (.inl ⟨rfl, .inl hd⟩)
      · exact fin "dynamic" (.inr ⟨rfl, hd⟩)
      · exact fin "static" (.inl ⟨rfl, .inr hd⟩)
  exact hcond
end
end
section
/- the containers of the symbols alone may change -/
structure FrS (σ σ' : St) : Prop where
  g : ∀ j, (σ.get j).isSome = true → (j < 4 ∨ 7 < j) → σ'.get j = σ.get j
  v : ∀ j, (σ.get j).isSome = true → (j < 4 ∨ 7 < j) → σ'.ver j = σ.ver j
  len : σ'.len = σ.len
theorem FrS.refl {σ : St} : FrS σ σ := ⟨fun ζ ζ ζ => rfl, fun ζ ζ ζ => rfl, rfl⟩
theorem FrS.trans {a b c : St} (x : FrS a b) (y : FrS b c) : FrS a c :=
  ⟨fun j h k => (y.g j (by rw [x.g j h k]; exact h) k).trans (x.g j h k), fun j h k => (y.v j (by rw [x.g j h k]; exact h) k).trans (x.v j h k), y.len.trans x.len⟩
theorem dget_zip {α : Type} {key : α → V} {l : List α} {k : V} (h : ∀ x ∈ l, eqKey (key x) k = false) : ∀ (n : Nat), dget k ((l.zipIdx n).map fun x => (key x.1, V.int x.2)) = none := by
  induction l with
  | nil => intro n; rfl
  | cons a l ih =>
    intro n
    rw [List.zipIdx_cons, List.map_cons]
    show (if eqKey (key a) k then _ else _) = _
    rw [h a (.head _), if_neg (by simp)]
    exact ih (fun x hx => h x (.tail _ hx)) _
theorem dget_zip_at {α : Type} {key : α → V} {l : List α} {k : V} {a : α} (ha : eqKey (key a) k = true) : ∀ {i n : Nat}, l[i]? = some a → (∀ j < i, ∀ b, l[j]? = some b → eqKey (key b) k = false) → dget k ((l.zipIdx n).map fun x => (key x.1, V.int x.2)) = some (.int ((n + i : Nat) : Int)) := by
  induction l with
  | nil => intro i n h; simp at h
  | cons b l ih =>
    intro i n h hj
    rw [List.zipIdx_cons, List.map_cons]
    show (if eqKey (key b) k then _ else _) = _
    cases i with
    | zero =>
      have : b = a := by simpa using h
      rw [this, if_pos ha]; rfl
    | succ i =>
      rw [hj 0 (by omega) b rfl, if_neg (by simp)]
      rw [ih (i := i) (n := n + 1) (by simpa using h) fun j hji c hc => hj (j + 1) (by omega) c (by simpa using hc)]
      congr 3; omega
theorem eqKey_str {a b : Str} : eqKey (.str a) (.str b) = decide (a = b) := rfl
theorem eqKey_pair {a b c d : Int} : eqKey (.tup [.int a, .int b]) (.tup [.int c, .int d]) = (decide (a = c) && decide (b = d)) := rfl
theorem an_none {tx : List Str} {t : Str} (h : t ∉ tx) : dget (.str t) (anOf tx) = none := dget_zip (key := V.str) (fun x hx => by rw [eqKey_str]; exact decide_eq_false fun e => h (e ▸ hx)) 0
theorem nodup_at {α : Type} {l : List α} {a : α} (hn : l.Nodup) {i j : Nat} (h1 : l[i]? = some a) (h2 : l[j]? = some a) : i = j := by
  obtain ⟨h1, e1⟩ := List.getElem?_eq_some_iff.mp h1
  obtain ⟨h2, e2⟩ := List.getElem?_eq_some_iff.mp h2
  have hp := List.pairwise_iff_getElem.mp hn
  rcases Nat.lt_trichotomy i j with h | h | h
  · exact absurd (e1.trans e2.symm) (hp i j h1 h2 h)
  · exact h
  · exact absurd (e2.trans e1.symm) (hp j i h2 h1 h)
theorem an_at {tx : List Str} {t : Str} {i : Nat} (hn : tx.Nodup) (h : tx[i]? = some t) : dget (.str t) (anOf tx) = some (.int i) := by
  have := dget_zip_at (key := V.str) (l := tx) (k := .str t) (a := t) (by rw [eqKey_str]; simp) (i := i) (n := 0) h fun j hj b hb => by
    rw [eqKey_str]
    refine decide_eq_false fun e => ?_
    subst e
    have := nodup_at hn hb h
    omega
  rw [Nat.zero_add] at this
  exact this
theorem fn_none {fu : List (Int × Int)} {a ar : Int} (h : (a, ar) ∉ fu) : dget (.tup [.int a, .int ar]) (fnOf fu) = none :=
  dget_zip (key := fun x : Int × Int => V.tup [.int x.1, .int x.2]) (fun x hx => by
    rw [eqKey_pair]
    rw [Bool.and_eq_false_iff]
    by_cases e : x.1 = a
    · right; exact decide_eq_false fun e2 => h (by rw [← e, ← e2]; exact hx)
    · left; exact decide_eq_false e) 0
theorem fn_at {fu : List (Int × Int)} {a ar : Int} {i : Nat} (hn : fu.Nodup) (h : fu[i]? = some (a, ar)) : dget (.tup [.int a, .int ar]) (fnOf fu) = some (.int i) := by
  have := dget_zip_at (key := fun x : Int × Int => V.tup [.int x.1, .int x.2]) (l := fu) (k := .tup [.int a, .int ar]) (a := (a, ar)) (by rw [eqKey_pair]; simp) (i := i) (n := 0) h fun j hj b hb => by
    rw [eqKey_pair, Bool.and_eq_false_iff]
    by_cases e : b.1 = a
    · right
      refine decide_eq_false fun e2 => ?_
      have e3 : b = (a, ar) := by rw [← e, ← e2]
      rw [e3] at hb
      have := nodup_at hn hb h
      omega
    · left; exact decide_eq_false e
  rw [Nat.zero_add] at this
  exact this
theorem an_fit {tx : List Str} {t : Str} : dfit (.str t) (anOf tx) := ⟨Nat.succ_ne_zero _, fun e he => by obtain ⟨x, _, rfl⟩ := List.mem_map.mp he; rfl⟩
theorem fn_fit {fu : List (Int × Int)} {a b : Int} : dfit (.tup [.int a, .int b]) (fnOf fu) := ⟨Nat.succ_ne_zero _, fun e he => by obtain ⟨x, _, rfl⟩ := List.mem_map.mp he; rfl⟩
theorem an_snoc {tx : List Str} {t : Str} : anOf (tx ++ [t]) = anOf tx ++ [(V.str t, V.int tx.length)] := by simp [anOf, List.zipIdx_append]
theorem fn_snoc {fu : List (Int × Int)} {x : Int × Int} : fnOf (fu ++ [x]) = fnOf fu ++ [(V.tup [.int x.1, .int x.2], V.int fu.length)] := by simp [fnOf, List.zipIdx_append]
theorem an_len {tx : List Str} : (anOf tx).length = tx.length := by simp [anOf]
theorem fn_len {fu : List (Int × Int)} : (fnOf fu).length = fu.length := by simp [fnOf]
section
variable {Γ : Env'} {σ : St} {Q X : V → St → Prop} {tx : List Str} {fu : List (Int × Int)} {t : Str} {a ar : Int} {i : Nat}
theorem SymL.atom_old (H : SymL σ tx fu) (G : Ok 1 Γ) (hn : tx.Nodup) (h : tx[i]? = some t) (q : Q (.int i) σ) : Γ.fn 136 [.obj 3, .str t] σ Q X :=
  sp_atom G H.i H.an an_fit (an_at hn h) (by omega) q
theorem SymL.atom_new (H : SymL σ tx fu) (G : Ok 1 Γ) (h : t ∉ tx) (hl : tx.length < 1000) (q : ∀ σ', SymL σ' (tx ++ [t]) fu → FrS σ σ' → Q (.int tx.length) σ') : Γ.fn 136 [.obj 3, .str t] σ Q X := by
  refine sp_atom_new G H.i H.ltx H.an an_fit (an_none h) (by rw [List.length_map]; simp only [big]; omega) (by rw [an_len]; simp only [big]; omega) ?_
  rw [List.length_map]
  obtain ⟨h3, h4, h5, h6, h7⟩ := H
  refine q _ ⟨by wtm_at "st", by wtm_at "st"; simp, ?_, by wtm_at "st", by wtm_at "st"⟩ ⟨fun j hj hk => ?_, fun j hj hk => ?_, by simp only [St.len_put]⟩
  · wtm_at "st"
    rw [dput_new (an_none h), an_snoc]
  · have n4 : 4 ≠ j := by omega
    have n5 : 5 ≠ j := by omega
    wtm_at "st"
  · have n4 : 4 ≠ j := by omega
    have n5 : 5 ≠ j := by omega
    wtm_at "st"
theorem SymL.functor_old (H : SymL σ tx fu) (G : Ok 1 Γ) (hn : fu.Nodup) (h : fu[i]? = some (a, ar)) (q : Q (.int i) σ) : Γ.fn 110 [.obj 3, .int a, .int ar] σ Q X :=
  sp_functor G H.i H.fn fn_fit (fn_at hn h) (by omega) q
theorem SymL.functor_new (H : SymL σ tx fu) (G : Ok 1 Γ) (h : (a, ar) ∉ fu) (hl : fu.length < 1000) (q : ∀ σ', SymL σ' tx (fu ++ [(a, ar)]) → FrS σ σ' → Q (.int fu.length) σ') : Γ.fn 110 [.obj 3, .int a, .int ar] σ Q X := by
  refine sp_functor_new G H.i H.lfu H.fn fn_fit (fn_none h) (by rw [List.length_map]; simp only [big]; omega) (by rw [fn_len]; simp only [big]; omega) ?_
  rw [List.length_map]
  obtain ⟨h3, h4, h5, h6, h7⟩ := H
  refine q _ ⟨by wtm_at "st", by wtm_at "st", by wtm_at "st", by wtm_at "st"; simp [fuV], ?_⟩ ⟨fun j hj hk => ?_, fun j hj hk => ?_, by simp only [St.len_put]⟩
  · wtm_at "st"
    rw [dput_new (fn_none h), fn_snoc]
  · have n4 : 6 ≠ j := by omega
    have n5 : 7 ≠ j := by omega
    wtm_at "st"
  · have n4 : 6 ≠ j := by omega
    have n5 : 7 ≠ j := by omega
    wtm_at "st"
theorem SymL.func_oo {j : Nat} {ar : Int} (H : SymL σ tx fu) (G : Ok 2 Γ) (hn : tx.Nodup) (h : tx[i]? = some t) (hn2 : fu.Nodup) (h2 : fu[j]? = some ((i : Int), ar)) (q : Q (.int j) σ) : Γ.fn 138 [.obj 3, .str t, .int ar] σ Q X := by
  refine G.run fun Γ G => ⟨rfl, ?_⟩
  have h3 := H.i
  unfold symO at h3
  wtm_at "go"
  refine H.atom_old (G.le (by omega)) hn h ?_
  exact H.functor_old (G.le (by omega)) hn2 h2 q
theorem SymL.func_on {ar : Int} (H : SymL σ tx fu) (G : Ok 2 Γ) (hn : tx.Nodup) (h : tx[i]? = some t) (h2 : ((i : Int), ar) ∉ fu) (hl : fu.length < 1000) (q : ∀ σ', SymL σ' tx (fu ++ [((i : Int), ar)]) → FrS σ σ' → Q (.int fu.length) σ') : Γ.fn 138 [.obj 3, .str t, .int ar] σ Q X := by
  refine G.run fun Γ G => ⟨rfl, ?_⟩
  have h3 := H.i
  unfold symO at h3
  wtm_at "go"
  refine H.atom_old (G.le (by omega)) hn h ?_
  exact H.functor_new (G.le (by omega)) h2 hl q
theorem SymL.func_nn {ar : Int} (H : SymL σ tx fu) (G : Ok 2 Γ) (h : t ∉ tx) (hl1 : tx.length < 1000) (h2 : ((tx.length : Int), ar) ∉ fu) (hl : fu.length < 1000) (q : ∀ σ', SymL σ' (tx ++ [t]) (fu ++ [((tx.length : Int), ar)]) → FrS σ σ' → Q (.int fu.length) σ') : Γ.fn 138 [.obj 3, .str t, .int ar] σ Q X := by
  refine G.run fun Γ G => ⟨rfl, ?_⟩
  have h3 := H.i
  unfold symO at h3
  wtm_at "go"
  refine H.atom_new (G.le (by omega)) h hl1 fun σ₁ H₁ F₁ => ?_
  have h3 := H₁.i
  unfold symO at h3
  exact H₁.functor_new (G.le (by omega)) h2 hl fun σ₂ H₂ F₂ => q σ₂ H₂ (F₁.trans F₂)
end
theorem nodup_TX : ∀ b, (TXl b).Nodup := by decide +kernel
theorem nodup_FU : ∀ b, (FUl b).Nodup := by decide +kernel
end
section
/- what the refusal bears -/
noncomputable def indV (a ar : Int) : V := .tup [.str "s", .int 15, .tup [.tup [.str "a", .int a], .tup [.str "i", .int ar]]]
noncomputable def formV (a ar : Int) : V := .tup [.str "s", .int 37, .tup [.tup [.str "a", .int 33], .tup [.str "a", .int 34], indV a ar]]
noncomputable def ballV (a ar : Int) : V := .tup [.str "s", .int 16, .tup [formV a ar, .tup [.str "a", .int 25]]]
section
variable {Γ : Env'} {σ : St} {Q X : V → St → Prop} {g a ar : Int} {t : Str}
theorem sp_ind (G : Ok 2 Γ) (H : FuAt σ g a ar t) (q : Q (indV a ar) σ) : Γ.fn 2 [.obj 3, .int g] σ Q X := by
  refine G.run fun Γ G => ⟨rfl, ?_⟩
  have h3 := H.i
  unfold symO at h3
  wtm_at "go"
  refine H.name (G.le (by omega)) ?_
  wtm_at "go"
  refine H.arity (G.le (by omega)) ?_
  exact q
theorem TX_at33 : (TXl true)[33]? = some (Str.ofString "modify") := by rfl
theorem TX_at34 : (TXl true)[34]? = some (Str.ofString "static_procedure") := by rfl
theorem TX_at35 : (TXl true)[35]? = some (Str.ofString "permission_error") := by rfl
theorem FU_at37 : (FUl true)[37]? = some (((35 : Nat) : Int), (3 : Int)) := by rfl
theorem sp_formal (G : Ok 3 Γ) (H : Sym true σ) (q : ∀ σ', Fr σ σ' → Q (formV a ar) σ') : Γ.fn 4 [.obj 3, .str "permission_error", .tup [.str "modify", .str "static_procedure", indV a ar]] σ Q X := by
  refine G.run fun Γ G => ⟨rfl, ?_⟩
  have h3 := H.i
  have h4 := H.ltx
  have h5 := H.an
  have h6 := H.lfu
  have h7 := H.fn
  have kp : ∀ σ', (∀ j, 3 ≤ j → j ≤ 7 → (σ.get j).isSome = true → σ'.get j = σ.get j) → Sym true σ' := fun σ' h => H.keep h
  unfold symO at h3
  unfold indV
  wtm_at "go"
  refine (kp _ fun j h1 h2 hj => by wtm_at "st").atom_old (G.le (by omega)) (nodup_TX true) TX_at33 ?_
  wtm_at "go"
  refine (kp _ fun j h1 h2 hj => by wtm_at "st").atom_old (G.le (by omega)) (nodup_TX true) TX_at34 ?_
  wtm_at "go"
  refine (kp _ fun j h1 h2 hj => by wtm_at "st").func_oo (i := 35) (j := 37) (G.le (by omega)) (nodup_TX true) TX_at35 (nodup_FU true) FU_at37 ?_
  wtm_at "go"
  exact q _ ⟨fun j hj => by wtm_at "st", fun j hj => by wtm_at "st"⟩
theorem sp_syserr {x : V} (G : Ok 1 Γ) (q : Q (.obj σ.len) (σ.add (.exc (.tup [.str "s", .int 16, .tup [x, .tup [.str "a", .int 25]]])))) : Γ.fn 3 [x] σ Q X := by
  refine G.run fun Γ G => ⟨rfl, ?_⟩
  exact q
theorem sp_permerr (G : Ok 4 Γ) (H : Sym true σ) (q : ∀ σ' o, Fr σ σ' → σ'.get o = some (.exc (ballV a ar)) → σ.len ≤ o → Q (.obj o) σ') : Γ.fn 5 [.obj 3, .str "modify", .str "static_procedure", indV a ar] σ Q X := by
  refine G.run fun Γ G => ⟨rfl, ?_⟩
  refine sp_formal (G.le (by omega)) H fun σ₁ F₁ => ?_
  obtain ⟨f1, f1'⟩ := F₁
  refine sp_syserr (G.le (by omega)) ?_
  have hle : σ.len ≤ σ₁.len := by
    have h7 := St.get_lt (show σ₁.get 7 = some _ from (f1 7 (by rw [H.fn]; rfl)).trans H.fn)
    by_cases h : σ.len ≤ σ₁.len
    · exact h
    · obtain ⟨x, hx⟩ := St.get_some (σ := σ) (i := σ₁.len) (by omega)
      have := St.get_lt (show σ₁.get σ₁.len = some x from (f1 _ (by rw [hx]; rfl)).trans hx)
      omega
  exact q _ _ ⟨fun j hj => by wtm_at "st", fun j hj => by wtm_at "st"⟩ St.ga_len hle
theorem sp_moderr {w : Nat} (G : Ok 5 Γ) (h9 : σ.get 9 = some (areaO w)) (H : Sym true σ) (Hf : FuAt σ g a ar t) (q : ∀ σ' o, Fr σ σ' → σ'.get o = some (.exc (ballV a ar)) → σ.len ≤ o → Q (.obj o) σ') : Γ.fn 550 [.obj 9, .int g] σ Q X := by
  refine G.run fun Γ G => ⟨rfl, ?_⟩
  unfold areaO at h9
  wtm_at "go"
  refine sp_ind (G.le (by omega)) Hf ?_
  wtm_at "go"
  exact sp_permerr (G.le (by omega)) H q
theorem sp_writerr {w : Nat} {kd : Str} (G : Ok 6 Γ) (h9 : σ.get 9 = some (areaO w)) (H : Sym true σ) (Hf : FuAt σ g a ar t) (hfix : ∀ Γ' (Q X : V → St → Prop), Ok 2 Γ' → Q (.bool true) σ → Γ'.fn 551 [.obj 9, .int g] σ Q X) (q : ∀ σ', Fr σ σ' → X (ballV a ar) σ') :
    Γ.fn 552 [.obj 9, .int g, .str kd] σ Q X := by
  refine G.run fun Γ G => ⟨rfl, ?_⟩
  have h9' := h9
  unfold areaO at h9'
  wtm_at "go"
  refine hfix _ _ _ (G.le (by omega)) ?_
  wtm_at "go"
  refine sp_moderr (G.le (by omega)) h9 H Hf fun σ₁ o F₁ ho hle => ?_
  wtm_at "go"
  refine q _ ⟨fun j hj => ?_, fun j hj => ?_⟩
  · have := St.get_lt' hj
    have hne : o ≠ j := by omega
    rw [St.gp_ne hne]; exact F₁.g j hj
  · have := St.get_lt' hj
    have hne : o ≠ j := by omega
    rw [St.vp_ne hne]; exact F₁.v j hj
end
end
section
theorem wSs_one {Γ : Env'} {s : IS} {ℓ : Loc} {σ : St} {K : Fl → Loc → St → Prop} : wSs Γ (.cons s .nil) ℓ σ K = wS Γ s ℓ σ K := by
  show wS Γ s ℓ σ (fun fl ℓ σ => thenFl fl (K .next ℓ σ) fun fl => K fl ℓ σ) = _
  congr 1
  funext fl ℓ σ
  cases fl <;> rfl
theorem ite_else {Γ : Env'} {c : IE} {t : ISs} {s : IS} {ℓ : Loc} {σ : St} {K : Fl → Loc → St → Prop} (h : ∀ (F F' : St → Prop), F' σ → wE Γ c ℓ σ fun v σ => boolV v fun b => ifB b (F σ) (F' σ)) (he : wS Γ s ℓ σ K) : wS Γ (.ite c t (.cons s .nil)) ℓ σ K :=
  h (fun σ => wSs Γ t ℓ σ K) (fun σ => wSs Γ (.cons s .nil) ℓ σ K) (by rw [wSs_one]; exact he)
noncomputable def IS.iteC : IS → IE
  | .ite c _ _ => c
  | _ => .val .none
noncomputable def dd1 : IS := deedIf.iteE.nth 0
noncomputable def dd2 : IS := dd1.iteE.nth 0
noncomputable def dd3 : IS := dd2.iteE.nth 0
noncomputable def dd5 : IS := dd3.iteE.nth 0
noncomputable def dd6 : IS := dd5.iteE.nth 0
noncomputable def b6 : ISs := dd6.iteT
noncomputable def b6a : ISs := b6.upto 1
noncomputable def b6b : ISs := b6.from 1
theorem b6_eq : b6 = b6a.app b6b := rfl
section
variable {tg tg' : Tg} {σ σ' : St} {cells : List Int} {k k' : Nat} {b b' : Bool} {C C' : List V} {w : Nat} {wl wl' : List Int} {num num' : Int} {fs fs' : List Int} {p : Int → PEn} {r : Int → REn} {f : Int} {pf : PEn} {rf : REn} {M : Tag → Prop}
theorem Rep.syms (H : Rep tg σ cells k b C w wl num fs p r) (F : FrT tg M σ σ') (hM : ∀ t, M t → t = .fix 4 ∨ t = .fix 5 ∨ t = .fix 6 ∨ t = .fix 7) (hs : Sym b' σ') (hk : k ≤ k') : Rep tg σ' cells k' b' C w wl num fs p r := by
  have nM : ∀ i, i < 4 ∨ 7 < i → ¬ M (.fix i) := fun i a z => by rcases hM _ z with h | h | h | h <;> cases h <;> omega
  have kp : ∀ i, i < 66 → i ≠ 14 → (i < 4 ∨ 7 < i) → (σ.get i).isSome = true → σ'.get i = σ.get i := fun i h1 h2 a h => F.g i h (by rw [H.ctx.tgF i h1 h2]; exact nM i a)
  have nI : ¬ M .imm := fun z => by rcases hM _ z with h | h | h | h <;> cases h
  have nO : ∀ g i, ¬ M (.own g i) := fun g i z => by rcases hM _ z with h | h | h | h <;> cases h
  have nW : ¬ M .wait := fun z => by rcases hM _ z with h | h | h | h <;> cases h
  refine ⟨H.hand.keep (kp 1 (by omega) (by omega) (by omega)) (kp 2 (by omega) (by omega) (by omega)), hs, ⟨?_, ?_, ?_, ?_, fun f hf => hs.free hf, H.ctx.tgF⟩, H.okC, by have := H.lenC; omega, H.fixd.keep fun j h1 h2 h => kp j (by omega) (by omega) (by omega) h, ?_, H.tw, by have := H.lenW; omega, H.inW, H.pendW, ?_, ?_, ?_, H.nd, H.fr, fun g hg => ?_, fun g hg => ?_, H.hM, H.num0, by have := H.num3; omega, H.cnt, ?_, ?_⟩
  · rw [kp 9 (by omega) (by omega) (by omega) (by rw [H.ctx.area]; rfl)]; exact H.ctx.area
  · rw [kp 11 (by omega) (by omega) (by omega) (by rw [H.ctx.code]; rfl)]; exact H.ctx.code
  · rw [kp 12 (by omega) (by omega) (by omega) (by rw [H.ctx.shapes]; rfl)]; exact H.ctx.shapes
  · rw [kp 13 (by omega) (by omega) (by omega) (by rw [H.ctx.procs]; rfl)]; exact H.ctx.procs
  · rw [F.g w (by rw [H.wait]; rfl) (by rw [H.tw]; exact nW)]; exact H.wait
  · rw [kp 65 (by omega) (by omega) (by omega) (by rw [H.known]; rfl)]; exact H.known
  · rw [kp 63 (by omega) (by omega) (by omega) (by rw [H.freeL]; rfl)]; exact H.freeL
  · rw [kp 64 (by omega) (by omega) (by omega) (by rw [H.fixL]; rfl)]; exact H.fixL
  · exact (H.hP g hg).keep F (fun i ζ => nO g i) nI ⟨[], by simp⟩ fun ζ ζ => rfl
  · exact (H.hR g hg).keep F (fun i ζ => nO g i) nI fun ζ ζ => rfl
  · have := St.get_lt (show σ'.get 65 = some _ from (kp 65 (by omega) (by omega) (by omega) (by rw [H.known]; rfl)).trans H.known)
    omega
  · have h0 := H.zero
    have n0 : ¬ M (tg 0) := by rw [H.ctx.tgF 0 (by omega) (by omega)]; exact nM 0 (by omega)
    exact ⟨by rw [F.g 0 h0.1 n0]; exact h0.1, by rw [F.v 0 h0.1 n0]; exact h0.2⟩
theorem FrS.tag (H : Rep tg σ cells k b C w wl num fs p r) (F : FrS σ σ') : FrT tg (fun t => t = .fix 4 ∨ t = .fix 5 ∨ t = .fix 6 ∨ t = .fix 7) σ σ' := by
  have h : ∀ j, ¬ (tg j = .fix 4 ∨ tg j = .fix 5 ∨ tg j = .fix 6 ∨ tg j = .fix 7) → j < 4 ∨ 7 < j := fun j h => by
    have h4 : j ≠ 4 := fun e => h (.inl (by rw [e]; exact H.ctx.tgF 4 (by omega) (by omega)))
    have h5 : j ≠ 5 := fun e => h (.inr (.inl (by rw [e]; exact H.ctx.tgF 5 (by omega) (by omega))))
    have h6 : j ≠ 6 := fun e => h (.inr (.inr (.inl (by rw [e]; exact H.ctx.tgF 6 (by omega) (by omega)))))
    have h7 : j ≠ 7 := fun e => h (.inr (.inr (.inr (by rw [e]; exact H.ctx.tgF 7 (by omega) (by omega)))))
    omega
  exact ⟨fun j hj hm => F.g j hj (h j hm), fun j hj hm => F.v j hj (h j hm)⟩
end
section
variable {Γ : Env'} {tg : Tg} {σ : St} {cells : List Int} {k : Nat} {b : Bool} {C : List V} {w ob : Nat} {wl : List Int} {num : Int} {fs : List Int} {p : Int → PEn} {r : Int → REn} {ℓ : Loc} {K : Fl → Loc → St → Prop} {f g a ar : Int} {t : Str}
noncomputable def s19 : ISs := b6b.upto 1
noncomputable def s20 : ISs := (b6b.from 1).upto 1
noncomputable def s21 : ISs := (b6b.from 2).upto 1
noncomputable def sTr : ISs := b6b.from 3
theorem b6b_eq : b6b = s19.app (s20.app (s21.app sTr)) := rfl
theorem s19_ok (G : Ok 11 Γ) (H : FuAt σ g a ar t) (hℓ : Has ℓ (L0 ob num ++ [(16, .int g)])) (h22 : ℓ 22 = none) (q : ∀ ℓ', Has ℓ' (L0 ob num ++ [(16, .int g), (19, indV a ar)]) → ℓ' 22 = none → K .next ℓ' σ) : wSs Γ s19 ℓ σ K := by
  obtain ⟨ℓ, rfl⟩ := hℓ.ex
  have h22 : ℓ 22 = none := h22
  have h3 := H.i
  unfold symO at h3
  simp only [s19, b6b, b6, dd6, dd5, dd3, dd2, dd1, deedIf, loopB, f31, ISs.nth, IS.forB, IS.iteT, IS.iteE, ISs.from, ISs.upto]
  wtm_at "go"
  refine H.name (G.le (by omega)) ?_
  wtm_at "go"
  refine H.arity (G.le (by omega)) ?_
  exact q _ ⟨rfl, rfl, rfl, rfl, rfl, rfl, rfl, rfl, rfl, rfl, rfl, rfl, trivial⟩ h22
theorem s20_ok {x : V} (G : Ok 11 Γ) (H : Sym b σ) (hℓ : Has ℓ (L0 ob num ++ [(16, .int g), (19, x)])) (h22 : ℓ 22 = none)
    (q : ∀ ℓ' σ' tx, FrS σ σ' → SymL σ' tx (FUl b) → (b = true → tx = TXl true) → (b = false → tx = TXl false ++ [Str.ofString "modify"] ++ [Str.ofString "static_procedure"]) → Has ℓ' (L0 ob num ++ [(16, .int g), (20, .tup [.tup [.str "a", .int 33], .tup [.str "a", .int 34], x])]) → ℓ' 22 = none → K .next ℓ' σ') : wSs Γ s20 ℓ σ K := by
  obtain ⟨ℓ, rfl⟩ := hℓ.ex
  have h22 : ℓ 22 = none := h22
  have h3 := H.i
  unfold symO at h3
  simp only [s20, b6b, b6, dd6, dd5, dd3, dd2, dd1, deedIf, loopB, f31, ISs.nth, IS.forB, IS.iteT, IS.iteE, ISs.from, ISs.upto]
  wtm_at "go"
  cases b with
  | true =>
    refine H.atom_old (G.le (by omega)) (nodup_TX true) TX_at33 ?_
    wtm_at "go"
    refine H.atom_old (G.le (by omega)) (nodup_TX true) TX_at34 ?_
    exact q _ _ _ FrS.refl H (fun ζ => rfl) (fun h => by cases h) ⟨rfl, rfl, rfl, rfl, rfl, rfl, rfl, rfl, rfl, rfl, rfl, rfl, trivial⟩ h22
  | false =>
    refine H.atom_new (G.le (by omega)) (by decide +kernel) (by decide) fun σ₁ H₁ F₁ => ?_
    have h3 := H₁.i
    unfold symO at h3
    wtm_at "go"
    refine H₁.atom_new (G.le (by omega)) (by decide +kernel) (by decide) fun σ₂ H₂ F₂ => ?_
    exact q _ _ _ (F₁.trans F₂) H₂ (fun h => by cases h) (fun ζ => rfl) ⟨rfl, rfl, rfl, rfl, rfl, rfl, rfl, rfl, rfl, rfl, rfl, rfl, trivial⟩ h22
theorem s21_ok {x : V} {tx : List Str} (G : Ok 11 Γ) (H : SymL σ tx (FUl b)) (h1 : b = true → tx = TXl true) (h2 : b = false → tx = TXl false ++ [Str.ofString "modify"] ++ [Str.ofString "static_procedure"]) (hℓ : Has ℓ (L0 ob num ++ [(16, .int g), (20, x)])) (h22 : ℓ 22 = none)
    (q : ∀ ℓ' σ', FrS σ σ' → Sym true σ' → Has ℓ' (L0 ob num ++ [(16, .int g), (21, .tup [.str "s", .int 16, .tup [.tup [.str "s", .int 37, x], .tup [.str "a", .int 25]]])]) → ℓ' 22 = none → K .next ℓ' σ') : wSs Γ s21 ℓ σ K := by
  obtain ⟨ℓ, rfl⟩ := hℓ.ex
  have h22 : ℓ 22 = none := h22
  have h3 := H.i
  unfold symO at h3
  simp only [s21, b6b, b6, dd6, dd5, dd3, dd2, dd1, deedIf, loopB, f31, ISs.nth, IS.forB, IS.iteT, IS.iteE, ISs.from, ISs.upto]
  wtm_at "go"
  cases b with
  | true =>
    have e := h1 rfl
    subst e
    refine SymL.func_oo H (i := 35) (j := 37) (G.le (by omega)) (nodup_TX true) TX_at35 (nodup_FU true) FU_at37 ?_
    exact q _ _ FrS.refl H ⟨rfl, rfl, rfl, rfl, rfl, rfl, rfl, rfl, rfl, rfl, rfl, rfl, trivial⟩ h22
  | false =>
    have e := h2 rfl
    subst e
    refine SymL.func_nn H (G.le (by omega)) (by decide +kernel) (by decide) (by decide +kernel) (by decide) fun σ₁ H₁ F₁ => ?_
    refine q _ _ F₁ ?_ ⟨rfl, rfl, rfl, rfl, rfl, rfl, rfl, rfl, rfl, rfl, rfl, rfl, trivial⟩ h22
    exact H₁
theorem sTr_ok (G : Ok 11 Γ) (h9 : σ.get 9 = some (areaO w)) (H : Sym true σ) (Hf : FuAt σ g a ar t) (hfix : ∀ Γ' (Q X : V → St → Prop), Ok 2 Γ' → Q (.bool true) σ → Γ'.fn 551 [.obj 9, .int g] σ Q X)
    (hℓ : Has ℓ (L0 ob num ++ [(16, .int g), (21, ballV a ar)])) (h22 : ℓ 22 = none) (q : ∀ ℓ' σ', Fr σ σ' → Has ℓ' (L0 ob num) → ℓ' 22 = none → K .next ℓ' σ') : wSs Γ sTr ℓ σ K := by
  obtain ⟨ℓ, rfl⟩ := hℓ.ex
  have h22 : ℓ 22 = none := h22
  have h9' := h9
  unfold areaO at h9'
  have hball : ∀ σ', eqV (ballV a ar) (ballV a ar) σ' = some true := fun σ' => by
    unfold ballV
    rw [eq_tup rfl rfl, eqv_self rfl]
  generalize hB : ballV a ar = B at hball
  simp only [sTr, b6b, b6, dd6, dd5, dd3, dd2, dd1, deedIf, loopB, f31, ISs.nth, IS.forB, IS.iteT, IS.iteE, ISs.from, ISs.upto]
  refine ⟨h22, ?_⟩
  wtm_at "go"
  refine sp_writerr (G.le (by omega)) h9 H Hf hfix fun σ' F' => ?_
  rw [hB]
  refine ⟨rfl, ?_⟩
  wtm_at "w"
  rw [hball]
  exact q _ _ F' ⟨rfl, rfl, rfl, rfl, rfl, rfl, rfl, rfl, rfl, rfl, trivial⟩ h22
end
end
section
section
variable {Γ : Env'} {tg : Tg} {σ : St} {cells : List Int} {k : Nat} {b : Bool} {C : List V} {w ob : Nat} {wl : List Int} {num : Int} {fs : List Int} {p : Int → PEn} {r : Int → REn} {ℓ : Loc} {K : Fl → Loc → St → Prop} {f g a ar : Int} {t : Str}
theorem deed6b (G : Ok 11 Γ) (H : Rep tg σ cells k b C w wl num fs p r) (hg : ∀ b σ, Sym b σ → FuAt σ g a ar t) (hfix : ∀ σ' b', Rep tg σ' cells k b' C w wl num fs p r → ∀ Γ' (Q X : V → St → Prop), Ok 2 Γ' → Q (.bool true) σ' → Γ'.fn 551 [.obj 9, .int g] σ' Q X)
    (hgt : ∀ σ' tx, SymL σ' tx (FUl b) → (b = true → tx = TXl true) → (b = false → tx = TXl false ++ [Str.ofString "modify"] ++ [Str.ofString "static_procedure"]) → True)
    (hℓ : Has ℓ (L0 ob num ++ [(16, .int g)])) (h22 : ℓ 22 = none) (q : Goes tg σ cells k C ob K) : wSs Γ b6b ℓ σ K := by
  rw [b6b_eq, wSs_app]
  refine s19_ok G (hg b σ H.sym) hℓ h22 fun ℓ₁ hL₁ hn₁ => ?_
  show wSs Γ (s20.app (s21.app sTr)) ℓ₁ σ K
  rw [wSs_app]
  refine s20_ok G H.sym hL₁ hn₁ fun ℓ₂ σ₂ tx F₂ H₂ e1 e2 hL₂ hn₂ => ?_
  show wSs Γ (s21.app sTr) ℓ₂ σ₂ K
  rw [wSs_app]
  refine s21_ok G H₂ e1 e2 hL₂ hn₂ fun ℓ₃ σ₃ F₃ H₃ hL₃ hn₃ => ?_
  show wSs Γ sTr ℓ₃ σ₃ K
  have FS := F₂.trans F₃
  have R' := H.syms (k' := k) (FS.tag H) (fun t h => h) H₃ (Nat.le_refl _)
  refine sTr_ok G R'.ctx.area H₃ (hg true σ₃ H₃) (hfix σ₃ true R') hL₃ hn₃ fun ℓ₄ σ₄ F₄ hL₄ hn₄ => ?_
  refine q _ _ _ true C w wl num fs p r (R'.idle F₄ (Nat.le_succ k)) (fun o x ho hto => ?_) ⟨[], by simp⟩ hL₄ hn₄
  have e1 := (FS.tag H).g o (by rw [ho]; rfl) (by rw [hto]; simp)
  rw [F₄.g o (by rw [e1, ho]; rfl), e1]; exact ho
theorem off_PF' {f : Int} (h : 33 ≤ f) : Off PF f := by
  intro e he
  obtain ⟨x, hx, rfl⟩ := List.mem_map.mp he
  refine ⟨rfl, ?_⟩
  rw [eqKey_int]
  refine decide_eq_false fun e => ?_
  have := PFl_lt x hx
  omega
theorem fixed_of (H : Rep tg σ cells k b C w wl num fs p r) {x : Int × Nat} (hx : x ∈ PFl) : ∀ Γ' (Q X : V → St → Prop), Ok 2 Γ' → Q (.bool true) σ → Γ'.fn 551 [.obj 9, .int x.1] σ Q X := fun Γ' Q X G q => by
  have hdf : dfit (.int x.1) (E PF fs fun f => (p f).P) := by
    refine ⟨Nat.succ_ne_zero _, fun e he => ?_⟩
    have := List.all_eq_true.mp (E_all PF_all) e he
    simpa [keyKind] using this
  exact sp_fixed2 G H.ctx.area H.ctx.procs hdf (dget_PF hx) (H.fixd x hx) (fxK_or _) q
theorem b6b_ok {i : Nat} (G : Ok 11 Γ) (H : Rep tg σ cells k b C w wl num fs p r) (hi : [(32 : Int), 36, 1, 20, 18, 31][i]? = some g)
    (hℓ : Has ℓ (L0 ob num ++ [(16, .int g)])) (h22 : ℓ 22 = none) (q : Goes tg σ cells k C ob K) : wSs Γ b6b ℓ σ K := by
  have key : ∀ (fi ai : Nat) (ar : Int) (t : Str), (∀ b, (FUl b)[fi]? = some ((ai : Int), ar)) → (∀ b, (TXl b)[ai]? = some t) → fi < 1000 → ai < 1000 → g = (fi : Int) → (∀ σ' b', Rep tg σ' cells k b' C w wl num fs p r → ∀ Γ' (Q X : V → St → Prop), Ok 2 Γ' → Q (.bool true) σ' → Γ'.fn 551 [.obj 9, .int g] σ' Q X) → wSs Γ b6b ℓ σ K := by
    intro fi ai ar t h1 h2 h3 h4 hg hfix
    subst hg
    exact deed6b G H (fun b σ hs => hs.at (h1 b) (h2 b) h3 h4) hfix (fun ζ ζ ζ ζ ζ => trivial) hℓ h22 q
  have hi6 : i < 6 := (List.getElem?_eq_some_iff.mp hi).1
  match i, hi6, hi with
  | 0, _, hi =>
    cases hi
    exact key 32 29 1 "b" (fun b => by cases b <;> rfl) (fun b => by cases b <;> rfl) (by omega) (by omega) rfl fun σ' b' R' => fixed_of R' (x := (32, 15)) (by decide)
  | 1, _, hi =>
    cases hi
    refine key 36 32 1 "$x" (fun b => by cases b <;> rfl) (fun b => by cases b <;> rfl) (by omega) (by omega) rfl fun σ' b' R' Γ' Q X G' q' => ?_
    have h36 : (36 : Int) ∉ fs := fun h => by rcases H.fr _ h with h | h | h <;> omega
    refine sp_fixed0 G' R'.ctx.area R'.ctx.procs (dfit_E (off_PF' (by omega))) ((dget_E (off_PF' (by omega))).2 h36) (R'.sym.at (f := 36) (a := 32) (ar := 1) (t := "$x") (by cases b' <;> rfl) (by cases b' <;> rfl) (by omega) (by omega)) ?_
    exact q'
  | 2, _, hi =>
    cases hi
    exact key 1 7 2 "," (fun b => by cases b <;> rfl) (fun b => by cases b <;> rfl) (by omega) (by omega) rfl fun σ' b' R' => fixed_of R' (x := (1, 18)) (by decide)
  | 3, _, hi =>
    cases hi
    exact key 20 15 0 "!" (fun b => by cases b <;> rfl) (fun b => by cases b <;> rfl) (by omega) (by omega) rfl fun σ' b' R' => fixed_of R' (x := (20, 30)) (by decide)
  | 4, _, hi =>
    cases hi
    exact key 18 27 3 "catch" (fun b => by cases b <;> rfl) (fun b => by cases b <;> rfl) (by omega) (by omega) rfl fun σ' b' R' => fixed_of R' (x := (18, 60)) (by decide)
  | 5, _, hi =>
    cases hi
    exact key 31 19 8 "call" (fun b => by cases b <;> rfl) (fun b => by cases b <;> rfl) (by omega) (by omega) rfl fun σ' b' R' => fixed_of R' (x := (31, 57)) (by decide)
theorem deed6 (G : Ok 11 Γ) (H : Rep tg σ cells k b C w wl num fs p r) (hk : k < 16) (hcl : cells.length < 100) (hℓ : Has ℓ (L0 ob num ++ [(11, .int 6), (12, .int f)])) (h22 : ℓ 22 = none) (q : Goes tg σ cells k C ob K) : wS Γ deedIf ℓ σ K := by
  have h6 : wS Γ dd6 ℓ σ K := by
    refine ite_walk (c := dd6.iteC) (t := b6) (e := dd6.iteE) (fun F F' hF => ?_) ?_
    · obtain ⟨ℓ, rfl⟩ := hℓ.ex
      simp only [dd6, dd5, dd3, dd2, dd1, deedIf, loopB, f31, ISs.nth, IS.forB, IS.iteT, IS.iteE, IS.iteC]
      exact hF
    · rw [b6_eq, wSs_app]
      obtain ⟨ℓ, rfl⟩ := hℓ.ex
      have h22 : ℓ 22 = none := h22
      generalize hKb : (fun (fl : Fl) ℓ σ => thenFl fl (wSs Γ b6b ℓ σ K) fun fl => K fl ℓ σ) = KB
      simp only [b6a, b6, dd6, dd5, dd3, dd2, dd1, deedIf, loopB, f31, ISs.nth, IS.forB, IS.iteT, IS.iteE, ISs.upto]
      refine sp_pick (G.le (by omega)) H.hand hcl (by omega) (by omega) fun σ₁ d F₁ hh h0 h1 => ?_
      have t2 := H.ctx.tgF 2 (by omega) (by omega)
      have FT : FrT tg (fun t => t = .fix 2) σ σ₁ := F₁.tag t2
      have H₁ := H.keep FT (fun ζ h => h) hh (Nat.le_refl k)
      have h64 := H₁.fixL
      obtain ⟨i, rfl⟩ : ∃ i : Nat, d = i := ⟨d.toNat, by omega⟩
      have hi : i < 6 := by omega
      have q' : Goes tg σ₁ cells k C ob K := fun ℓ₂ σ₂ tg₂ b₂ C₂ w₂ wl₂ num₂ fs₂ p₂ r₂ R₂ k₂ hX h0 h1 => q ℓ₂ σ₂ tg₂ b₂ C₂ w₂ wl₂ num₂ fs₂ p₂ r₂ R₂ (fun o x ho hto => k₂ o x (by rw [FT.g o (by rw [ho]; rfl) (by rw [hto]; simp)]; exact ho) hto) hX h0 h1
      have hget : ∀ gg : Int, [(32 : Int), 36, 1, 20, 18, 31][i]? = some gg → ([V.int 32, .int 36, .int 1, .int 20, .int 18, .int 31] : List V)[(i : Int).toNat]? = some (.int gg) := fun gg h => by
        rw [Int.toNat_natCast]
        have : ([V.int 32, .int 36, .int 1, .int 20, .int 18, .int 31] : List V) = [(32 : Int), 36, 1, 20, 18, 31].map V.int := rfl
        rw [this, List.getElem?_map, h]; rfl
      obtain ⟨gg, hgg⟩ : ∃ gg, [(32 : Int), 36, 1, 20, 18, 31][i]? = some gg := ⟨_, List.getElem?_eq_getElem (by simpa using hi)⟩
      have hget := hget gg hgg
      wtm_at "go"
      try rw [hget]
      wtm_at "w"
      rw [← hKb]
      show wSs Γ b6b _ _ K
      exact b6b_ok G H₁ hgg ⟨rfl, rfl, rfl, rfl, rfl, rfl, rfl, rfl, rfl, rfl, rfl, trivial⟩ h22 q'
  have h5 : wS Γ dd5 ℓ σ K := by
    refine ite_else (c := dd5.iteC) (t := dd5.iteT) (s := dd6) (fun F F' hF => ?_) h6
    obtain ⟨ℓ, rfl⟩ := hℓ.ex
    simp only [dd5, dd3, dd2, dd1, deedIf, loopB, f31, ISs.nth, IS.forB, IS.iteT, IS.iteE, IS.iteC]
    exact hF
  have h3 : wS Γ dd3 ℓ σ K := by
    refine ite_else (c := dd3.iteC) (t := dd3.iteT) (s := dd5) (fun F F' hF => ?_) h5
    obtain ⟨ℓ, rfl⟩ := hℓ.ex
    simp only [dd3, dd2, dd1, deedIf, loopB, f31, ISs.nth, IS.forB, IS.iteT, IS.iteE, IS.iteC]
    exact hF
  have h2 : wS Γ dd2 ℓ σ K := by
    refine ite_else (c := dd2.iteC) (t := dd2.iteT) (s := dd3) (fun F F' hF => ?_) h3
    obtain ⟨ℓ, rfl⟩ := hℓ.ex
    simp only [dd2, dd1, deedIf, loopB, f31, ISs.nth, IS.forB, IS.iteT, IS.iteE, IS.iteC]
    exact hF
  have h1 : wS Γ dd1 ℓ σ K := by
    refine ite_else (c := dd1.iteC) (t := dd1.iteT) (s := dd2) (fun F F' hF => ?_) h2
    obtain ⟨ℓ, rfl⟩ := hℓ.ex
    simp only [dd1, deedIf, loopB, f31, ISs.nth, IS.forB, IS.iteT, IS.iteE, IS.iteC]
    exact hF
  refine ite_else (c := deedIf.iteC) (t := deedIf.iteT) (s := dd1) (fun F F' hF => ?_) h1
  obtain ⟨ℓ, rfl⟩ := hℓ.ex
  simp only [deedIf, loopB, f31, ISs.nth, IS.forB, IS.iteT, IS.iteE, IS.iteC]
  exact hF
end
end
section
noncomputable def L1 (num : Int) : List (Nat × V) := [(1, .obj 1), (2, .obj 2), (3, .obj 3), (4, .int 32), (5, .obj 9), (6, .obj 63), (7, .obj 64), (8, .obj 65), (9, .int num)]
noncomputable def picks : ISs := loopB.upto 3
theorem loopB_eq : loopB = picks.app (.cons deedIf checks) := rfl
section
variable {Γ : Env'} {tg : Tg} {σ : St} {cells : List Int} {k : Nat} {b : Bool} {C : List V} {w ob : Nat} {wl : List Int} {num : Int} {fs : List Int} {p : Int → PEn} {r : Int → REn} {ℓ : Loc} {K : Fl → Loc → St → Prop} {f g a ar : Int} {t : Str}
theorem Rep.retag {tg' : Tg} (H : Rep tg σ cells k b C w wl num fs p r) (ht : ∀ j, j < σ.len → tg' j = tg j) : Rep tg' σ cells k b C w wl num fs p r := by
  have h66 := H.len
  refine ⟨H.hand, H.sym, ⟨H.ctx.area, H.ctx.code, H.ctx.shapes, H.ctx.procs, H.ctx.sym, fun i h1 h2 => by rw [ht i (by omega)]; exact H.ctx.tgF i h1 h2⟩, H.okC, H.lenC, H.fixd, H.wait, by rw [ht _ (St.get_lt H.wait)]; exact H.tw, H.lenW, H.inW, H.pendW, H.known, H.freeL, H.fixL, H.nd, H.fr,
    fun g hg => (H.hP g hg).keep (M := fun ζ => False) FrT.refl (fun ζ ζ h => h) (fun h => h) ⟨[], by simp⟩ fun j h => ht j (St.get_lt' h), fun g hg => (H.hR g hg).keep (M := fun ζ => False) FrT.refl (fun ζ ζ h => h) (fun h => h) fun j h => ht j (St.get_lt' h), H.hM, H.num0, H.num3, H.cnt, H.len, H.zero⟩
theorem picks_ok (G : Ok 11 Γ) (H : Rep tg σ cells k b C w wl num fs p r) (hk : k < 16) (hcl : cells.length < 100) (hℓ : Has ℓ (L1 num)) (h22 : ℓ 22 = none)
    (q : ∀ ℓ' σ' tg' d f ob, Rep tg' σ' cells k b C w wl num fs p r → 0 ≤ d → d < 8 → freeF f → σ'.get ob = some (.list C) → tg' ob = .imm → Has ℓ' (L0 ob num ++ [(11, .int d), (12, .int f)]) → ℓ' 22 = none → K .next ℓ' σ') : wSs Γ picks ℓ σ K := by
  obtain ⟨ℓ, rfl⟩ := hℓ.ex
  have h22 : ℓ 22 = none := h22
  have t2 := H.ctx.tgF 2 (by omega) (by omega)
  simp only [picks, loopB, f31, ISs.nth, IS.forB, ISs.upto]
  refine sp_pick (G.le (by omega)) H.hand hcl (by omega) (by omega) fun σ₁ d F₁ hh h0 h1 => ?_
  have H₁ := H.keep (M := fun t => t = .fix 2) (F₁.tag t2) (fun ζ h => h) hh (Nat.le_refl k)
  refine sp_pick (G.le (by omega)) H₁.hand hcl (by omega) (by omega) fun σ₂ e F₂ hh2 h2 h3 => ?_
  have H₂ := H₁.keep (M := fun t => t = .fix 2) (F₂.tag t2) (fun ζ h => h) hh2 (Nat.le_refl k)
  have h63 := H₂.freeL
  have h9 := H₂.ctx.area
  unfold areaO at h9
  have h11 := H₂.ctx.code
  have hlC := H.lenC
  have F₃ : Fr σ₂ (σ₂.add (.list C)) := ⟨fun j hj => by wtm_at "st", fun j hj => by wtm_at "st"⟩
  have H₃ := (H₂.retag (tg' := newTag tg σ₂.len fun ζ => .imm) fun j h => newTag_old h).idle F₃ (Nat.le_refl k)
  have fin : ∀ (f : Int) (ℓ' : Loc), freeF f → Has ℓ' (L0 σ₂.len num ++ [(11, .int d), (12, .int f)]) → ℓ' 22 = none → K .next ℓ' (σ₂.add (.list C)) := fun f ℓ' hf hL h => by
    exact q ℓ' _ _ d f σ₂.len H₃ h0 h1 hf St.ga_len (newTag_new (Nat.le_refl _)) hL h
  rcases (by omega : e = 0 ∨ e = 1 ∨ e = 2) with rfl | rfl | rfl
  · skip
    wtm_at "go"
    exact fin 33 _ (.inl rfl) ⟨rfl, rfl, rfl, rfl, rfl, rfl, rfl, rfl, rfl, rfl, rfl, rfl, trivial⟩ h22
  · skip
    wtm_at "go"
    exact fin 34 _ (.inr (.inl rfl)) ⟨rfl, rfl, rfl, rfl, rfl, rfl, rfl, rfl, rfl, rfl, rfl, rfl, trivial⟩ h22
  · skip
    wtm_at "go"
    exact fin 35 _ (.inr (.inr rfl)) ⟨rfl, rfl, rfl, rfl, rfl, rfl, rfl, rfl, rfl, rfl, rfl, rfl, trivial⟩ h22
theorem has_L1 {l : List (Nat × V)} (h : Has ℓ (L0 ob num ++ l)) : Has ℓ (L1 num) := by
  obtain ⟨a1, a2, a3, a4, a5, a6, a7, a8, a9, _⟩ := h
  exact ⟨a1, a2, a3, a4, a5, a6, a7, a8, a9, trivial⟩
/- what holds at the head of the loop -/
noncomputable def Head (cells : List Int) (k : Nat) (ℓ : Loc) (σ : St) : Prop := ℓ 22 = none ∧ ∃ tg b C w wl num fs p r, Rep tg σ cells k b C w wl num fs p r ∧ Has ℓ (L1 num)
theorem body_ok (G : Ok 11 Γ) (H : Head cells k ℓ σ) (hk : k < 16) (hcl : cells.length < 100) {x : V} (q : ∀ ℓ' σ', Head cells (k + 1) ℓ' σ' → K .next ℓ' σ') : wSs Γ loopB (ℓ.set 10 x) σ K := by
  obtain ⟨h22, tg, b, C, w, wl, num, fs, p, r, R, hL⟩ := H
  rw [loopB_eq, wSs_app]
  have hL' : Has (ℓ.set 10 x) (L1 num) := by
    obtain ⟨a1, a2, a3, a4, a5, a6, a7, a8, a9, _⟩ := hL
    exact ⟨a1, a2, a3, a4, a5, a6, a7, a8, a9, trivial⟩
  refine picks_ok G R hk hcl hL' h22 fun ℓ₁ σ₁ tg₁ d f ob R₁ h0 h1 hf ho hto hL₁ hn₁ => ?_
  show wS Γ deedIf ℓ₁ σ₁ fun fl ℓ σ => thenFl fl (wSs Γ checks ℓ σ K) fun fl => K fl ℓ σ
  have goes : Goes tg₁ σ₁ cells k C ob fun fl ℓ σ => thenFl fl (wSs Γ checks ℓ σ K) fun fl => K fl ℓ σ := by
    intro ℓ₂ σ₂ tg₂ b₂ C₂ w₂ wl₂ num₂ fs₂ p₂ r₂ R₂ k₂ hX hL₂ hn₂
    show wSs Γ checks ℓ₂ σ₂ K
    refine checks_ok G R₂ (by omega) hL₂ hn₂ (k₂ ob _ ho hto) hX fun ℓ₃ σ₃ F₃ hL₃ hn₃ => ?_
    exact q ℓ₃ σ₃ ⟨hn₃, tg₂, b₂, C₂, w₂, wl₂, num₂, fs₂, p₂, r₂, R₂.idle F₃ (Nat.le_refl _), has_L1 (l := []) (by simpa using hL₃)⟩
  rcases (by omega : d = 0 ∨ d = 1 ∨ d = 2 ∨ d = 3 ∨ d = 4 ∨ d = 5 ∨ d = 6 ∨ d = 7) with rfl | rfl | rfl | rfl | rfl | rfl | rfl | rfl
  · exact deed047 G R₁ hk hf (.inl rfl) hL₁ hn₁ goes
  · exact deed1 G R₁ hk hL₁ hn₁ goes
  · exact deed2 G R₁ hk hL₁ hn₁ hf goes
  · exact deed3 G R₁ hk hcl hL₁ hn₁ hf goes
  · exact deed047 G R₁ hk hf (.inr (.inl rfl)) hL₁ hn₁ goes
  · exact deed5 G R₁ hk hcl hL₁ hn₁ hf goes
  · exact deed6 G R₁ hk hcl hL₁ hn₁ goes
  · exact deed047 G R₁ hk hf (.inr (.inr rfl)) hL₁ hn₁ goes
noncomputable def forS : ISs := .cons (f31.body.nth 9) .nil
noncomputable def endS : ISs := f31.body.from 10
theorem for_ok (G : Ok 11 Γ) (H : Head cells 0 ℓ σ) (hcl : cells.length < 100) (q : ∀ ℓ' σ' k, Head cells k ℓ' σ' → K .next ℓ' σ') : wSs Γ forS ℓ σ K := by
  have H0 := H
  obtain ⟨h22, tg, b, C, w, wl, num, fs, p, r, R, hL⟩ := H
  obtain ⟨ℓ, rfl⟩ := hL.ex
  have h1 := R.hand.cl
  have hlen : (toInts cells).length = cells.length := by simp [toInts]
  have hsub : ∀ Q : Fl → Loc → St → Prop, (forLoop (wSs Γ loopB) (.rng 0 (if 2 + (cells.length : Int) < 16 then 2 + (cells.length : Int) else 16)) 0 10 (rangeL 0 (if 2 + (cells.length : Int) < 16 then 2 + (cells.length : Int) else 16)) (setAll (L1 num) ℓ) σ Q) = (forLoop (fun ℓ σ Q => wSs Γ (f31.body.nth 9).forB ℓ σ Q) (.rng 0 (if 2 + (cells.length : Int) < 16 then 2 + (cells.length : Int) else 16)) 0 10 (rangeL 0 (if 2 + (cells.length : Int) < 16 then 2 + (cells.length : Int) else 16)) (setAll (L1 num) ℓ) σ Q) := fun Q => rfl
  have loop : ∀ m : Int, m ≤ 16 → forLoop (wSs Γ loopB) (.rng 0 m) 0 10 (rangeL 0 m) (setAll (L1 num) ℓ) σ (fun fl ℓ σ => thenFl fl (K .next ℓ σ) fun fl => K fl ℓ σ) := fun m hm => by
    rw [rangeL_map]
    refine for_range (fun (j : Nat) => V.int (0 + (j : Int))) (fun k ℓ σ => Head cells k ℓ σ) H0 (fun ζ ζ ζ ζ => rfl) (fun k ℓ σ K' hk i kk => ?_) fun ℓ σ i => ?_
    · exact body_ok G i (by omega) hcl kk
    · exact q _ _ _ i
  generalize hB : loopB = B at loop hsub
  have e9 : f31.body.nth 9 = .for 10 (.call .range (.cons (.call .min (.cons (.val (.int 16)) (.cons (.bin .Add (.val (.int 2)) (.call .len (.cons (.loc 1) .nil))) .nil))) .nil)) B := by rw [← hB]; rfl
  unfold forS
  rw [e9]
  wtm_at "go"
  exact loop _ (by split <;> omega)
theorem meta_mem : ∀ i : Nat, i < 8 → ((24 : Int) + i, 36 + 3 * i) ∈ PFl := by decide
theorem end_ok {Q X : V → St → Prop} (G : Ok 11 Γ) (H : Head cells k ℓ σ) (q : ∀ σ', σ'.ver 0 = 0 → Q (.bool true) σ') : wSs Γ endS ℓ σ fun fl ζ σ' => resFl Q X fl σ' := by
  obtain ⟨h22, tg, b, C, w, wl, num, fs, p, r, R, hL⟩ := H
  obtain ⟨ℓ, rfl⟩ := hL.ex
  have h9 := R.ctx.area
  have h9' := h9
  unfold areaO at h9'
  have h13 := R.ctx.procs
  have hdf : ∀ f : Int, dfit (.int f) (E PF fs fun f => (p f).P) := fun f => by
    refine ⟨Nat.succ_ne_zero _, fun e he => ?_⟩
    have := List.all_eq_true.mp (E_all PF_all) e he
    simpa [keyKind] using this
  have hfx : ∀ i : Nat, i < 8 → fxE (24 + (i : Int)) = 13 + i := fun i h => by unfold fxE; rw [if_neg (by omega), if_pos (by omega)]; omega
  simp only [endS, f31, ISs.from]
  refine ⟨by decide, ?_⟩
  refine And.intro (by rw [rangeL_len]; decide) ?_
  refine comp_range (N := 8) (fun (j : Nat) => V.int (0 + (j : Int))) (fun d acc σ' => acc = (List.range d).map (fun (i : Nat) => V.int (13 + (i : Int))) ∧ σ' = σ) ⟨rfl, rfl⟩ ?_ ?_ ?_
  · rintro d acc σ' ⟨_, rfl⟩; rfl
  · rintro i acc σ' K hi ⟨rfl, rfl⟩ kk
    have hm := meta_mem i hi
    have hP := R.fixd _ hm
    have hP' := hP
    unfold procO at hP'
    wtm_at "gw"
    have e0 : (24 : Int) + (0 + i) = 24 + i := by omega
    rw [e0]
    refine sp_lookup1 (G.le (by omega)) h9 h13 (hdf _) (dget_PF hm) hP ?_
    wtm_at "go"
    refine kk _ _ ⟨?_, rfl⟩
    rw [List.range_succ, List.map_append]; first | rfl | (show _ ++ [V.int (fxE (24 + (i : Int)))] = _; rw [hfx i hi]; rfl)
  · rintro acc σ' ⟨rfl, rfl⟩
    have F₁ : Fr σ' (σ'.add (.list ((List.range 8).map fun (i : Nat) => V.int (13 + (i : Int))))) := ⟨fun j hj => by wtm_at "st", fun j hj => by wtm_at "st"⟩
    have g₁ : (σ'.add (.list ((List.range 8).map fun (i : Nat) => V.int (13 + (i : Int))))).get σ'.len = some (.list ((List.range 8).map fun (i : Nat) => V.int (13 + (i : Int)))) := St.ga_len
    have hok : okVs 60 ((List.range 8).map fun (i : Nat) => V.int (13 + (i : Int))) = true := rfl
    wtm_at "w"
    generalize σ'.add (.list ((List.range 8).map fun (i : Nat) => V.int (13 + (i : Int)))) = σ₁ at F₁ g₁ ⊢
    have F₂ : Fr σ₁ (σ₁.add (.list (rangeL 13 (13 + 8)))) := ⟨fun j hj => by wtm_at "st", fun j hj => by wtm_at "st"⟩
    have R₂ := R.idle (F₁.trans F₂) (Nat.le_refl k)
    have hm : ((18 : Int), 60) ∈ PFl := by decide
    have hP := R₂.fixd _ hm
    have hP' := hP
    unfold procO at hP'
    have h9₂ := R₂.ctx.area
    have h9₃ := h9₂
    unfold areaO at h9₃
    have e1 : eqV (.obj σ'.len) (.obj σ₁.len) (σ₁.add (.list (rangeL 13 (13 + 8)))) = some true := eq_list_self (l := (List.range 8).map fun (i : Nat) => V.int (13 + (i : Int))) (by wtm_at "st") (by rw [St.ga_len]; rfl) hok
    generalize hτ : σ₁.add (.list (rangeL 13 (13 + 8))) = τ at F₂ R₂ hP hP' h9₂ h9₃ e1
    have go2 : wE Γ (.bop .And (.cons (.cmp .Eq (.loc 24) (.call .list (.cons (.call .range (.cons (.val (.int 13)) (.cons (.bin .Add (.val (.int 13)) (.val (.int 8))) .nil))) .nil))) (.cons (.cmp .Eq (.attr (.mcall (.loc 5) 49 (.cons (.val (.int 18)) .nil)) 12) (.val (.int 3))) .nil))) ((setAll (L1 num) ℓ).set 24 (.obj σ'.len)) σ₁ fun v σ => Q v σ := by
      refine ⟨by decide, ?_⟩
      refine And.intro (by decide) ?_
      rw [hτ]
      show someB (eqV (.obj σ'.len) (.obj σ₁.len) τ) _
      rw [e1]
      wtm_at "go"
      refine sp_lookup1 (G.le (by omega)) h9₂ R₂.ctx.procs (hdf _) (dget_PF hm) hP ?_
      wtm_at "go"
      exact q τ R₂.zero.2
    exact go2
end
end
section
theorem gen_st {P F : St → Prop} {S : St} (hS : P S) (h : ∀ τ, P τ → F τ) : F S := h S hS
section
variable {Γ : Env'} {σ : St} {Q X : V → St → Prop}
theorem sp_fatoms (G : Ok 1 Γ) (q : Q (.tup (TX0.map V.str)) σ) : Γ.fn 0 [] σ Q X := by
  refine G.run fun Γ G => ⟨rfl, ?_⟩
  exact q
noncomputable def frV (x : Int × Int) : V := .tup [.str (TX0.getD x.1.toNat ""), .int x.2]
theorem sp_ffuncs (G : Ok 1 Γ) (q : Q (.tup (FU0.map frV)) σ) : Γ.fn 1 [] σ Q X := by
  refine G.run fun Γ G => ⟨rfl, ?_⟩
  exact q
theorem nodup_TX0 : TX0.Nodup := by decide +kernel
theorem nodup_FU0 : FU0.Nodup := by decide +kernel
theorem FU0_at : ∀ x ∈ FU0, 0 ≤ x.1 ∧ x.1.toNat < 29 := by decide
theorem TX0_len : TX0.length = 29 := rfl
theorem nodup_cut {α : Type} {l d r : List α} {a : α} (hn : l.Nodup) (e : l = d ++ a :: r) : a ∉ d := by
  rw [e, List.nodup_append] at hn
  exact fun h => hn.2.2 a h a (.head _) rfl
theorem sp_symbols (G : Ok 4 Γ) (h3 : σ.get 3 = some (.inst 0 [])) (hl : σ.len = 4) (hz : (σ.get 0).isSome = true) (q : ∀ σ', SymL σ' TX0 FU0 → (∀ j, (σ.get j).isSome = true → j ≠ 3 → σ'.get j = σ.get j) → σ'.len = 8 → σ'.ver 0 = σ.ver 0 → Q .none σ') : Γ.fn 50 [.obj 3] σ Q X := by
  refine G.run fun Γ G => ⟨rfl, ?_⟩
  wtm_at "go"
  refine gen_st (P := fun τ => SymL τ [] [] ∧ τ.len = 8 ∧ (∀ j, (σ.get j).isSome = true → j ≠ 3 → τ.get j = σ.get j) ∧ τ.ver 0 = σ.ver 0) (F := fun τ => Γ.fn 0 [] τ _ _) ?_ fun τ hτ => ?_
  · refine ⟨⟨?_, ?_, ?_, ?_, ?_⟩, ?_, fun j hj hne => ?_, ?_⟩
    · simp [St.get_add, St.get_put, St.len_add, St.len_put, hl, symO, lput]
    · simp [St.get_add, St.get_put, St.len_add, St.len_put, hl]
    · simp [St.get_add, St.get_put, St.len_add, St.len_put, hl, anOf]
    · simp [St.get_add, St.get_put, St.len_add, St.len_put, hl]
    · simp [St.get_add, St.get_put, St.len_add, St.len_put, hl, fnOf]
    · simp [St.len_add, St.len_put, hl]
    · have := St.get_lt' hj
      have h4 : j < 4 := by omega
      have hne' : 3 ≠ j := Ne.symm hne
      simp [St.get_add, St.get_put, St.len_add, St.len_put, hl, hne', Nat.ne_of_lt h4, show j ≠ 5 by omega, show j ≠ 6 by omega, show j ≠ 7 by omega]
    · clear hl; wtm_at "st"
  obtain ⟨S0, hl0, hk0, hv0⟩ := hτ
  refine sp_fatoms (G.le (by omega)) ?_
  refine And.intro (by rw [List.length_map]; decide) ?_
  refine for_map (l := TX0) V.str (fun d ℓ σ' => ℓ 0 = some (.obj 3) ∧ SymL σ' d [] ∧ FrS τ σ') ⟨rfl, S0, FrS.refl⟩ (fun ζ ζ ζ ζ => rfl) ?_ ?_
  · rintro d t r ℓ σ' K e ⟨h0, S1, F1⟩ k
    obtain ⟨ℓ, rfl⟩ := Has.ex (l := [(0, .obj 3)]) ⟨h0, trivial⟩
    have hnd := nodup_cut nodup_TX0 e
    have hdl : d.length < 1000 := by
      have := congrArg List.length e
      rw [TX0_len] at this
      simp at this; omega
    have hi := S1.i
    unfold symO at hi
    clear e
    wtm_at "go"
    refine S1.atom_new (G.le (by omega)) hnd hdl fun σ₂ S2 F2 => ?_
    exact k _ _ ⟨rfl, S2, F1.trans F2⟩
  · rintro ℓ σ₁ ⟨h0, S1, F1⟩
    obtain ⟨ℓ, rfl⟩ := Has.ex (l := [(0, .obj 3)]) ⟨h0, trivial⟩
    refine sp_ffuncs (G.le (by omega)) ?_
    refine And.intro (by rw [List.length_map]; decide) ?_
    refine for_map (l := FU0) frV (fun d ℓ σ' => ℓ 0 = some (.obj 3) ∧ SymL σ' TX0 d ∧ FrS τ σ') ⟨rfl, S1, F1⟩ (fun ζ ζ ζ ζ => rfl) ?_ ?_
    · rintro d x r ℓ σ' K e ⟨h0, S2, F2⟩ k
      obtain ⟨ℓ, rfl⟩ := Has.ex (l := [(0, .obj 3)]) ⟨h0, trivial⟩
      have hnd := nodup_cut nodup_FU0 e
      have hdl : d.length < 1000 := by
        have := congrArg List.length e
        rw [show FU0.length = 32 from rfl] at this
        simp at this; omega
      obtain ⟨x0, x1⟩ := FU0_at x (by rw [e]; simp)
      have hat : TX0[x.1.toNat]? = some (TX0.getD x.1.toNat "") := by
        rw [List.getElem?_eq_getElem (by rw [TX0_len]; exact x1), List.getD_eq_getElem?_getD, List.getElem?_eq_getElem (by rw [TX0_len]; exact x1)]; rfl
      have hx : x = ((x.1.toNat : Int), x.2) := by rw [Int.toNat_of_nonneg x0]
      have hi := S2.i
      unfold symO at hi
      have hnd' : ((x.1.toNat : Int), x.2) ∉ d := by rw [← hx]; exact hnd
      clear e
      have fin := fun σ' (h : SymL σ' TX0 (d ++ [((x.1.toNat : Int), x.2)])) => show SymL σ' TX0 (d ++ [x]) by rw [hx]; exact h
      clear hx
      wtm_at "go"
      refine S2.func_on (G.le (by omega)) nodup_TX0 hat hnd' hdl fun σ₂ S3 F3 => ?_
      exact k _ _ ⟨rfl, fin _ S3, F2.trans F3⟩
    · rintro ℓ σ₂ ⟨h0, S2, F2⟩
      refine q _ S2 (fun j hj hne => ?_) (by rw [F2.len]; exact hl0) (by rw [F2.v 0 (by rw [hk0 0 hz (by omega)]; exact hz) (by omega)]; exact hv0)
      have hlt := St.get_lt' hj
      have := hk0 j hj hne
      rw [F2.g j (by rw [this]; exact hj) (by omega), this]
theorem sp_shapes (G : Ok 1 Γ) (q : Q (.obj σ.len) (σ.add (.dict SH))) : Γ.fn 12 [] σ Q X := by
  refine G.run fun Γ G => ⟨rfl, ?_⟩
  exact q
noncomputable def BOOT : List V := [.tup [.str "call", .int 24, .int 0], .tup [.str "halt"], .tup [.str "fail"], .tup [.str "catch_push"], .tup [.str "allocate", .int 1], .tup [.str "mark", .tup [.str "y", .int 1]], .tup [.str "call", .int 24, .int 1], .tup [.str "catch_exit", .tup [.str "y", .int 1]], .tup [.str "deallocate"], .tup [.str "proceed"], .tup [.str "catch_fail"], .tup [.str "dyn_retry"], .tup [.str "proceed"]] ++
  (List.range 8).map fun (i : Nat) => V.tup [.str "meta_call", .int (1 + (i : Int))]
theorem BOOT_ok : ∀ x ∈ BOOT, okV 60 x = true := mem_okVs (by rfl)
theorem BOOT_len : BOOT.length = 21 := by rfl
theorem sp_boot (G : Ok 1 Γ) (q : ∀ σ', Fr σ σ' → σ'.len = σ.len + 1 → σ'.get σ.len = some (.list BOOT) → Q (.obj σ.len) σ') : Γ.fn 11 [] σ Q X := by
  refine G.run fun Γ G => ⟨rfl, ?_⟩
  refine ⟨by decide, ?_⟩
  refine And.intro (by rw [rangeL_len]; decide) ?_
  refine for_range (N := 8) (fun (j : Nat) => V.int (1 + (j : Int))) (fun k ℓ σ' => ℓ 1 = some (.obj σ.len) ∧ Fr σ σ' ∧ σ'.len = σ.len + 1 ∧ σ'.get σ.len = some (.list ([.tup [.str "call", .int 24, .int 0], .tup [.str "halt"], .tup [.str "fail"], .tup [.str "catch_push"], .tup [.str "allocate", .int 1], .tup [.str "mark", .tup [.str "y", .int 1]], .tup [.str "call", .int 24, .int 1], .tup [.str "catch_exit", .tup [.str "y", .int 1]], .tup [.str "deallocate"], .tup [.str "proceed"], .tup [.str "catch_fail"], .tup [.str "dyn_retry"], .tup [.str "proceed"]] ++
    (List.range k).map fun (i : Nat) => V.tup [.str "meta_call", .int (1 + (i : Int))]))) ?_ (fun ζ ζ ζ ζ => rfl) ?_ ?_
  · exact ⟨rfl, ⟨fun j hj => by wtm_at "st", fun j hj => by wtm_at "st"⟩, St.len_add _ _, by rw [St.ga_len]; rfl⟩
  · rintro i ℓ σ' K hi ⟨h0, ⟨f1, f1'⟩, hl, hg⟩ k
    obtain ⟨ℓ, rfl⟩ := Has.ex (l := [(1, .obj σ.len)]) ⟨h0, trivial⟩
    have hll : ((List.range i).map fun (i : Nat) => V.tup [.str "meta_call", .int (1 + (i : Int))]).length < 10 := by simp; omega
    generalize hr : ((List.range i).map fun (i : Nat) => V.tup [.str "meta_call", .int (1 + (i : Int))]) = R at hg hll
    generalize hb : ([.tup [.str "call", .int 24, .int 0], .tup [.str "halt"], .tup [.str "fail"], .tup [.str "catch_push"], .tup [.str "allocate", .int 1], .tup [.str "mark", .tup [.str "y", .int 1]], .tup [.str "call", .int 24, .int 1], .tup [.str "catch_exit", .tup [.str "y", .int 1]], .tup [.str "deallocate"], .tup [.str "proceed"], .tup [.str "catch_fail"], .tup [.str "dyn_retry"], .tup [.str "proceed"]] : List V) = B at hg k
    have hbl : B.length = 13 := by rw [← hb]; rfl
    have hsnoc : (List.range (i + 1)).map (fun (i : Nat) => V.tup [.str "meta_call", .int (1 + (i : Int))]) = R ++ [V.tup [.str "meta_call", .int (1 + (i : Int))]] := by rw [← hr, List.range_succ, List.map_append]; rfl
    rw [hsnoc] at k
    clear hr hb hsnoc
    wtm_at "go"
    refine k _ _ ⟨rfl, ⟨fun j hj => by wtm_at "st", fun j hj => by wtm_at "st"⟩, ?_, ?_⟩
    · rw [St.len_put]; exact hl
    · wtm_at "st"
      rw [List.append_assoc]
  · rintro ℓ σ' ⟨h0, F, hl, hg⟩
    obtain ⟨ℓ, rfl⟩ := Has.ex (l := [(1, .obj σ.len)]) ⟨h0, trivial⟩
    exact q _ F hl hg
end
end
section
section
variable {Γ : Env'} {σ σ0 : St} {Q X : V → St → Prop}
theorem sp_procinit2 {s : Nat} {f : Int} {kind : Str} (G : Ok 1 Γ) (hs : σ.get s = some (.inst 2 [])) (hl : σ.len = s + 1)
    (q : ∀ σ', Fr1 s σ σ' → σ'.len = s + 3 → σ'.get s = some (procO f kind (-1) (s + 1) (s + 2) false false false) → Q .none σ') : Γ.fn 52 [.obj s, .int f, .str kind] σ Q X := by
  refine G.run fun Γ G => ⟨rfl, ?_⟩
  wtm_at "go"
  refine q _ ?zfr ?zl ?za
  case zfr => exact ⟨fun j hj hne => by wtm_at "st", fun j hj hne => by wtm_at "st"⟩
  case zl => simp only [St.len_put, St.len_add, hl]
  case za =>
    rw [St.gp_eq (by wtm_at "st")]
    simp only [St.len_put, St.len_add, hl]
    rfl
/- the fixed procedures, up to the n-th -/
structure FxS (σ0 : St) (n : Nat) (σ : St) : Prop where
  len : σ.len = 15 + 3 * n
  procs : σ.get 13 = some (.dict (PF.take n))
  fx : ∀ i x, i < n → PFl[i]? = some x → σ.get x.2 = some (procO x.1 (fxK x.1) (fxE x.1) (x.2 + 1) (x.2 + 2) false false false)
  keep : ∀ j, j < 15 → j ≠ 13 → σ.get j = σ0.get j
  v0 : σ.ver 0 = σ0.ver 0
theorem PFl_at : ∀ i : Nat, i < 16 → ∃ x, PFl[i]? = some x ∧ x.2 = 15 + 3 * i := by decide
theorem PFl_id {i : Nat} {x : Int × Nat} (h : PFl[i]? = some x) : x.2 = 15 + 3 * i ∧ i < 16 := by
  have hi : i < 16 := (List.getElem?_eq_some_iff.mp h).1
  obtain ⟨y, h1, h2⟩ := PFl_at i hi
  rw [h] at h1; cases h1
  exact ⟨h2, hi⟩
theorem nodup_PFl : (PFl.map Prod.fst).Nodup := by decide
theorem FxS.new {n : Nat} {x : Int × Nat} (hx : PFl[n]? = some x) : dget (.int x.1) (PF.take n) = none ∧ dfit (.int x.1) (PF.take n) ∧ (PF.take n).length < 100 ∧ dput (.int x.1) (.obj x.2) (PF.take n) = PF.take (n + 1) := by
  have hn := (PFl_id hx).2
  have hlen : PF.length = 16 := rfl
  have h1 : dget (.int x.1) (PF.take n) = none := by
    have : ∀ e ∈ PF.take n, eqKey e.1 (.int x.1) = false := fun e he => by
      unfold PF at he
      rw [← List.map_take] at he
      obtain ⟨y, hy, rfl⟩ := List.mem_map.mp he
      rw [eqKey_int]
      refine decide_eq_false fun e => ?_
      obtain ⟨i, hi⟩ := List.mem_iff_getElem?.mp hy
      have hi' : i < n ∧ PFl[i]? = some y := by
        rw [List.getElem?_take] at hi
        split at hi
        · exact ⟨by assumption, hi⟩
        · cases hi
      have a1 : (PFl.map Prod.fst)[i]? = some y.1 := by rw [List.getElem?_map, hi'.2]; rfl
      have a2 : (PFl.map Prod.fst)[n]? = some x.1 := by rw [List.getElem?_map, hx]; rfl
      rw [e] at a1
      have := nodup_at nodup_PFl a1 a2
      omega
    have z := dget_app (a := PF.take n) (b := []) (k := .int x.1) this
    rw [List.append_nil] at z
    exact z
  refine ⟨h1, ⟨Nat.succ_ne_zero _, fun e he => ?_⟩, by rw [List.length_take]; omega, ?_⟩
  · have he := List.mem_of_mem_take he
    have := List.all_eq_true.mp PF_all e he
    simpa [keyKind] using this
  · rw [dput_new h1]
    have : PF[n]? = some (.int x.1, .obj x.2) := by
      show (PFl.map _)[n]? = _
      rw [List.getElem?_map, hx]; rfl
    rw [List.take_add_one, this]; rfl
/- one more -/
theorem FxS.step {n : Nat} {x : Int × Nat} {σ' τ : St} (H : FxS σ0 n σ) (hx : PFl[n]? = some x) (hl : σ'.len = x.2 + 3) (hk : ∀ j, j < x.2 → (σ.get j).isSome = true → σ'.get j = σ.get j)
    (e1 : τ.len = σ'.len) (e2 : ∀ j, (σ'.get j).isSome = true → j ≠ x.2 → j ≠ 13 → τ.get j = σ'.get j) (e3 : τ.get x.2 = some (procO x.1 (fxK x.1) (fxE x.1) (x.2 + 1) (x.2 + 2) false false false)) (e4 : τ.get 13 = some (.dict (dput (.int x.1) (.obj x.2) (PF.take n)))) (h15 : 15 ≤ σ0.len) (ev : τ.ver 0 = σ.ver 0) : FxS σ0 (n + 1) τ := by
  obtain ⟨h1, h2⟩ := PFl_id hx
  have hlen := H.len
  refine ⟨by rw [e1, hl, h1]; omega, by rw [e4, (FxS.new hx).2.2.2], fun i y hi hy => ?_, fun j hj hne => ?_, ev.trans H.v0⟩
  · by_cases e : i = n
    · subst e
      rw [hx] at hy; cases hy
      exact e3
    · obtain ⟨h3, h4⟩ := PFl_id hy
      have g := H.fx i y (by omega) hy
      have g2 := hk y.2 (by omega) (by rw [g]; rfl)
      rw [e2 y.2 (by rw [g2, g]; rfl) (by omega) (by omega), g2, g]
  · have g := H.keep j hj hne
    obtain ⟨o, ho⟩ := St.get_some (σ := σ0) (i := j) (by omega)
    have g2 := hk j (by omega) (by rw [g, ho]; rfl)
    rw [e2 j (by rw [g2, g, ho]; rfl) (by omega) hne, g2, g]
end
end
section
theorem PFl_ctl : ∀ i : Nat, i < 6 → ∃ a, [(1 : Int), 2, 3, 4, 20, 5][i]? = some a ∧ PFl[1 + i]? = some (a, 15 + 3 * (1 + i)) ∧ fxE a = -1 ∧ fxK a = "control" := by decide +kernel
theorem PFl_meta : ∀ i : Nat, i < 8 → PFl[7 + i]? = some ((24 : Int) + i, 15 + 3 * (7 + i)) ∧ fxE (24 + (i : Int)) = 13 + i ∧ fxK (24 + (i : Int)) = "control" := by decide +kernel
section
variable {Γ : Env'} {σ σ0 : St} {Q X : V → St → Prop}
theorem sp_enter (G : Ok 2 Γ) (hlen : σ0.len = 15) (h9 : σ0.get 9 = some (areaO 14)) (h8 : σ0.get 8 = some (.dict [(.int 32, .int 0)])) (h13 : σ0.get 13 = some (.dict [])) (hz : (σ0.get 0).isSome = true) (q : ∀ σ', FxS σ0 16 σ' → Q .none σ') : Γ.fn 543 [.obj 9] σ0 Q X := by
  refine G.run fun Γ G => ⟨rfl, ?_⟩
  have h9' := h9
  unfold areaO at h9'
  have F0 : FxS σ0 0 σ0 := ⟨hlen, h13, fun i x h => by omega, fun ζ ζ ζ => rfl, rfl⟩
  -- a procedure made at the end of the store
  have make : ∀ (n : Nat) (x : Int × Nat) (σ : St) (kind : Str) (Q' : V → St → Prop), FxS σ0 n σ → PFl[n]? = some x → (∀ σ', σ'.get x.2 = some (procO x.1 kind (-1) (x.2 + 1) (x.2 + 2) false false false) → σ'.len = x.2 + 3 → (∀ j, j < x.2 → (σ.get j).isSome = true → σ'.get j = σ.get j) → (∀ j, j < x.2 → (σ.get j).isSome = true → σ'.ver j = σ.ver j) → Q' .none σ') →
      Γ.fn 52 [.obj σ.len, .int x.1, .str kind] (σ.add (.inst 2 [])) Q' (fun ζ ζ => False) := fun n x σ kind Q' H hx k => by
    obtain ⟨h1, h2⟩ := PFl_id hx
    have e : σ.len = x.2 := by rw [H.len, h1]
    refine sp_procinit2 (G.le (by omega)) St.ga_len (St.len_add _ _) fun σ' F hl hg => ?_
    rw [e] at hg hl
    refine k σ' hg hl (fun j hj hlv => ?_) fun j hj hlv => ?_
    · rw [F.g j (by rw [St.ga_old hlv]; exact hlv) (by omega), St.ga_old hlv]
    · rw [F.v j (by rw [St.ga_old hlv]; exact hlv) (by omega), St.va_old hlv]
  have area : ∀ (n : Nat) (σ : St), FxS σ0 n σ → σ.get 9 = some (areaO 14) := fun n σ H => by rw [H.keep 9 (by omega) (by omega)]; exact h9
  have upto9 : ∀ (n : Nat) (x : Int × Nat) (σ σ' : St), FxS σ0 n σ → PFl[n]? = some x → (∀ j, j < x.2 → (σ.get j).isSome = true → σ'.get j = σ.get j) → σ'.get 9 = some (areaO 14) ∧ σ'.get 13 = some (.dict (PF.take n)) ∧ 13 ≠ x.2 ∧ x.2 ≠ 13 ∧ 9 ≠ x.2 ∧ x.2 ≠ 9 := fun n x σ σ' H hx hk => by
    obtain ⟨h1, h2⟩ := PFl_id hx
    refine ⟨by rw [hk 9 (by omega) (by rw [area n σ H]; rfl)]; exact area n σ H, by rw [hk 13 (by omega) (by rw [H.procs]; rfl)]; exact H.procs, by omega, by omega, by omega, by omega⟩
  have hsrc : srcItems σ0 (.obj 8) = some [.int 32] := src_dict h8 rfl
  wtm_at "one"
  refine Op.mk ?_
  rw [hsrc]
  refine And.intro (by decide) ?_
  refine And.intro rfl ?_
  refine make 0 (32, 15) σ0 _ _ F0 rfl fun σ₁ hg₁ hl₁ hk₁ hv₁ => ?_
  obtain ⟨a9, a13, n1, n2, n3, n4⟩ := upto9 0 (32, 15) σ0 σ₁ F0 rfl hk₁
  obtain ⟨d1, d2, d3, d4⟩ := FxS.new (n := 0) (x := (32, 15)) rfl
  have a9' := a9
  unfold areaO at a9'
  have e0 : σ0.len = 15 := hlen
  refine ⟨rfl, ?_⟩
  wtm_at "one"
  wtm_at "one"
  rw [hlen]
  have v8 : srcVer (σ₁.put 13 (.dict (dput (.int 32) (.obj 15) (PF.take 0)))) (.obj 8) = srcVer σ0 (.obj 8) := by
    show St.ver _ 8 = St.ver _ 8
    rw [St.vp_ne (by omega)]
    exact hv₁ 8 (by decide) (by rw [h8]; rfl)
  refine And.intro v8 ?_
  have F1 : FxS σ0 1 (σ₁.put 13 (.dict (dput (.int 32) (.obj 15) (PF.take 0)))) :=
    F0.step (x := (32, 15)) rfl hl₁ hk₁ (St.len_put _ _ _) (fun j ζ ζ h => St.gp_ne (Ne.symm h)) (by rw [St.gp_ne (by decide)]; exact hg₁) (St.gp_eq (by rw [a13]; rfl)) (by omega) (by rw [St.vp_ne (by omega)]; exact hv₁ 0 (by decide) hz)
  generalize σ₁.put 13 (.dict (dput (.int 32) (.obj 15) (PF.take 0))) = τ₁ at F1 ⊢
  clear a9' a9 a13 hg₁ hk₁ hv₁ v8 n1 n2 n3 n4 d1 d2 d3 d4
  refine And.intro (by decide) ?_
  refine for_map (l := [(1 : Int), 2, 3, 4, 20, 5]) V.int (fun d ℓ σ' => ℓ 0 = some (.obj 9) ∧ FxS σ0 (1 + d.length) σ') ⟨rfl, F1⟩ (fun ζ ζ ζ ζ => rfl) ?_ ?_
  · rintro d a r ℓ σ K e ⟨h0, H⟩ k
    obtain ⟨ℓ, rfl⟩ := Has.ex (l := [(0, .obj 9)]) ⟨h0, trivial⟩
    have hd : d.length < 6 := by have := congrArg List.length e; simp at this; omega
    obtain ⟨a', e1, e2, e3, e4⟩ := PFl_ctl d.length hd
    have ea : a' = a := by
      rw [e, List.getElem?_append_right (Nat.le_refl _), Nat.sub_self] at e1
      simpa using e1.symm
    subst ea
    clear e e1
    refine make _ _ σ "control" _ H e2 fun σ₁ hg₁ hl₁ hk₁ hv₁ => ?_
    obtain ⟨a9, a13, n1, n2, n3, n4⟩ := upto9 _ _ σ σ₁ H e2 hk₁
    obtain ⟨d1, d2, d3, d4⟩ := FxS.new e2
    have hs : σ.len = 15 + 3 * (1 + d.length) := H.len
    have F2 := H.step e2 hl₁ hk₁ (τ := σ₁.put 13 (.dict (dput (.int a') (.obj σ.len) (PF.take (1 + d.length))))) (St.len_put _ _ _) (fun j ζ ζ h => St.gp_ne (Ne.symm h)) (by rw [St.gp_ne n1, e3, e4]; exact hg₁) (by rw [St.gp_eq (by rw [a13]; rfl), hs]) (by omega) (by rw [St.vp_ne (by omega)]; exact hv₁ 0 (by show 0 < 15 + _; omega) (by rw [H.keep 0 (by omega) (by omega)]; exact hz))
    have a9' := a9
    unfold areaO at a9'
    clear hs h9' e0
    refine ⟨rfl, ?_⟩
    wtm_at "one"
    wtm_at "one"
    exact k _ _ ⟨rfl, by rw [List.length_append, List.length_singleton]; exact F2⟩
  · rintro ℓ σ₂ ⟨h0, H2⟩
    obtain ⟨ℓ, rfl⟩ := Has.ex (l := [(0, .obj 9)]) ⟨h0, trivial⟩
    refine ⟨by decide, ?_⟩
    refine And.intro (by rw [rangeL_len]; decide) ?_
    have H2 : FxS σ0 (7 + 0) σ₂ := H2
    refine for_range (N := 8) (fun (j : Nat) => V.int (0 + (j : Int))) (fun i ℓ σ' => ℓ 0 = some (.obj 9) ∧ FxS σ0 (7 + i) σ') ⟨rfl, H2⟩ (fun ζ ζ ζ ζ => rfl) ?_ ?_
    · rintro i ℓ σ K hi ⟨h0, H⟩ k
      obtain ⟨ℓ, rfl⟩ := Has.ex (l := [(0, .obj 9)]) ⟨h0, trivial⟩
      obtain ⟨e2, e3, e4⟩ := PFl_meta i hi
      have hs : σ.len = 15 + 3 * (7 + i) := H.len
      have z1 : (24 : Int) + (0 + i) = 24 + i := by omega
      have z2 : (13 : Int) + (0 + i) = 13 + i := by omega
      wtm_at "w"
      rw [z1]
      refine make _ _ σ "control" _ H e2 fun σ₁ hg₁ hl₁ hk₁ hv₁ => ?_
      obtain ⟨a9, a13, n1, n2, n3, n4⟩ := upto9 _ _ σ σ₁ H e2 hk₁
      obtain ⟨d1, d2, d3, d4⟩ := FxS.new e2
      have hg' : σ₁.get σ.len = some (procO (24 + i) "control" (-1) (σ.len + 1) (σ.len + 2) false false false) := by rw [hs]; exact hg₁
      have m1 : 13 ≠ σ.len := by omega
      have m2 : σ.len ≠ 13 := by omega
      have m3 : 9 ≠ σ.len := by omega
      have m4 : σ.len ≠ 9 := by omega
      have F2 := H.step e2 hl₁ hk₁ (τ := (σ₁.put σ.len (procO (24 + i) "control" (13 + i) (σ.len + 1) (σ.len + 2) false false false)).put 13 (.dict (dput (.int (24 + i)) (.obj σ.len) (PF.take (7 + i))))) (by rw [St.len_put, St.len_put]) (fun j ζ h1 h2 => by rw [St.gp_ne (Ne.symm h2), St.gp_ne (by rw [hs]; exact Ne.symm h1)])
        (by show St.get _ (15 + 3 * (7 + i)) = some (procO (24 + i) (fxK (24 + i)) (fxE (24 + i)) (15 + 3 * (7 + i) + 1) (15 + 3 * (7 + i) + 2) false false false); rw [e3, e4, ← hs, St.gp_ne m1, St.gp_eq (by rw [hg']; rfl)])
        (by show _ = some (O.dict (dput (.int (24 + i)) (.obj (15 + 3 * (7 + i))) _)); rw [← hs, St.gp_eq (by rw [St.gp_ne m2, a13]; rfl)]) (by omega) (by rw [St.vp_ne (by omega), St.vp_ne (by omega)]; exact hv₁ 0 (by show 0 < 15 + _; omega) (by rw [H.keep 0 (by omega) (by omega)]; exact hz))
      have a9' := a9
      unfold areaO at a9'
      unfold procO at hg'
      clear hs h9' e0 z1 hg₁ n1 n2 n3 n4 hk₁ hv₁ e2 e3 e4
      refine ⟨rfl, ?_⟩
      wtm_at "go"
      try rw [z2]
      exact k _ _ ⟨rfl, F2⟩
    · rintro ℓ σ ⟨h0, H⟩
      obtain ⟨ℓ, rfl⟩ := Has.ex (l := [(0, .obj 9)]) ⟨h0, trivial⟩
      have e2 : PFl[15]? = some ((18 : Int), 60) := rfl
      have e3 : fxE 18 = 3 := rfl
      have e4 : fxK 18 = "control" := rfl
      have hs : σ.len = 60 := H.len
      refine make 15 (18, 60) σ "control" _ H e2 fun σ₁ hg₁ hl₁ hk₁ hv₁ => ?_
      obtain ⟨a9, a13, n1, n2, n3, n4⟩ := upto9 15 (18, 60) σ σ₁ H e2 hk₁
      obtain ⟨d1, d2, d3, d4⟩ := FxS.new e2
      have hg' : σ₁.get σ.len = some (procO 18 "control" (-1) (σ.len + 1) (σ.len + 2) false false false) := by rw [hs]; exact hg₁
      have m1 : 13 ≠ σ.len := by omega
      have m2 : σ.len ≠ 13 := by omega
      have m3 : 9 ≠ σ.len := by omega
      have m4 : σ.len ≠ 9 := by omega
      have F2 := H.step e2 hl₁ hk₁ (τ := (σ₁.put σ.len (procO 18 "control" 3 (σ.len + 1) (σ.len + 2) false false false)).put 13 (.dict (dput (.int 18) (.obj σ.len) (PF.take 15)))) (by rw [St.len_put, St.len_put]) (fun j ζ h1 h2 => by rw [St.gp_ne (Ne.symm h2), St.gp_ne (by rw [hs]; exact Ne.symm h1)])
        (by show St.get _ 60 = some (procO 18 (fxK 18) (fxE 18) (60 + 1) (60 + 2) false false false); rw [e3, e4, ← hs, St.gp_ne m1, St.gp_eq (by rw [hg']; rfl)])
        (by show _ = some (O.dict (dput (.int 18) (.obj 60) _)); rw [← hs, St.gp_eq (by rw [St.gp_ne m2, a13]; rfl)]) (by omega) (by rw [St.vp_ne (by omega), St.vp_ne (by omega)]; exact hv₁ 0 (by decide) (by rw [H.keep 0 (by omega) (by omega)]; exact hz))
      have a9' := a9
      unfold areaO at a9'
      unfold procO at hg'
      clear hs h9' e0 hg₁ n1 n2 n3 n4 hk₁ hv₁ e2 e3 e4
      refine ⟨rfl, ?_⟩
      wtm_at "go"
      exact q _ F2
end
end
section
noncomputable def LenIs (σ : St) (n : Nat) : Prop := σ.len = n
section
variable {Γ : Env'} {σ σ0 : St} {Q X : V → St → Prop}
theorem sp_store (G : Ok 1 Γ) (h9 : σ.get 9 = some (.inst 4 [])) (hl : LenIs σ 10) (q : ∀ σ', LenIs σ' 11 → σ'.get 9 = some (.inst 4 [(19, .obj 10), (20, .int 0), (21, .int 0)]) → Fr1 9 σ σ' → Q .none σ') : Γ.fn 53 [.obj 9] σ Q X := by
  refine G.run fun Γ G => ⟨rfl, ?_⟩
  wtm_at "go"
  refine q _ ?zl ?zg ?zf
  case zf => exact ⟨fun j hj hne => by wtm_at "st", fun j hj hne => by wtm_at "st"⟩
  case zl => unfold LenIs at *; simp only [St.len_put, St.len_add, hl]
  case zg =>
    rw [St.gp_eq (by wtm_at "st")]
    unfold LenIs at hl
    rw [hl]; rfl
theorem FixAt.of {σ : St} (H : FxS σ0 16 σ) : FixAt σ := fun x hx => by
  obtain ⟨i, hi⟩ := List.mem_iff_getElem?.mp hx
  exact H.fx i x (PFl_id hi).2 hi
theorem sp_linkage (G : Ok 4 Γ) (h9 : σ.get 9 = some (.inst 4 [])) (h8 : σ.get 8 = some (.dict [(.int 32, .int 0)])) (hl : LenIs σ 10) (hz : (σ.get 0).isSome = true)
    (q : ∀ σ', LenIs σ' 63 → σ'.get 9 = some (areaO 14) → σ'.get 11 = some (.list BOOT) → σ'.get 12 = some (.dict SH) → σ'.get 13 = some (.dict PF) → σ'.get 14 = some (.list []) → FixAt σ' → (∀ j, j < 9 → σ'.get j = σ.get j) → σ'.ver 0 = σ.ver 0 → Q .none σ') : Γ.fn 54 [.obj 9, .obj 3, .obj 8] σ Q X := by
  refine G.run fun Γ G => ⟨rfl, ?_⟩
  refine sp_store (G.le (by omega)) h9 hl fun σ₁ hl₁ hg₁ F₁ => ?_
  have F₁' := F₁
  obtain ⟨f1, f1'⟩ := F₁
  wtm_at "go"
  refine sp_boot (G.le (by omega)) fun σ₃ F₃ hl₃ hb₃ => ?_
  have e₃ : LenIs σ₃ 12 := by
    unfold LenIs at *
    rw [hl₃]; simp only [St.len_put, hl₁]
  have F₃' := F₃
  obtain ⟨f3, f3'⟩ := F₃
  clear hl₃
  wtm_at "go"
  refine sp_shapes (G.le (by omega)) ?_
  wtm_at "go"
  refine gen_st (P := fun τ => τ.len = 15 ∧ τ.get 9 = some (areaO 14) ∧ τ.get 11 = some (.list BOOT) ∧ τ.get 12 = some (.dict SH) ∧ τ.get 13 = some (.dict []) ∧ τ.get 14 = some (.list []) ∧ (∀ j, j < 9 → τ.get j = σ.get j) ∧ τ.ver 0 = σ.ver 0) (F := fun τ => Γ.fn 543 [.obj 9] τ _ _) ?_ fun τ hτ => ?_
  · have v0 : σ₃.ver 0 = σ.ver 0 := by
      have h1 : (σ₁.get 0).isSome = true := by rw [F₁'.g 0 hz (by omega)]; exact hz
      rw [F₃'.v 0 (by rw [St.gp_ne (by omega), St.gp_ne (by omega)]; exact h1), St.vp_ne (by omega), St.vp_ne (by omega), F₁'.v 0 hz (by omega)]
    have z3 : (σ₃.get 0).isSome = true := by
      have h1 : (σ₁.get 0).isSome = true := by rw [F₁'.g 0 hz (by omega)]; exact hz
      rw [F₃'.g 0 (by rw [St.gp_ne (by omega), St.gp_ne (by omega)]; exact h1), St.gp_ne (by omega), St.gp_ne (by omega)]; exact h1
    unfold LenIs at *
    have g9 : σ₃.get 9 = some (.inst 4 [(19, .obj 10), (20, .int 0), (21, .int 0), (22, .obj 3), (23, .obj 8)]) := by
      rw [f3 9 (by wtm_at "st")]
      rw [St.gp_eq (by wtm_at "st")]; rfl
    have g11 : σ₃.get 11 = some (.list BOOT) := by
      have := hb₃
      simp only [St.len_put, hl₁] at this
      exact this
    have low : ∀ j, j < 9 → σ₃.get j = σ.get j := fun j hj => by
      obtain ⟨o, ho⟩ := St.get_some (σ := σ) (i := j) (by omega)
      have h1 := f1 j (by rw [ho]; rfl) (by omega)
      rw [f3 j (by rw [St.gp_ne (by omega), St.gp_ne (by omega), h1, ho]; rfl), St.gp_ne (by omega), St.gp_ne (by omega), h1]
    clear f1 f1' f3 f3' F₁' F₃' hb₃ hg₁
    refine ⟨?_, ?_, ?_, ?_, ?_, ?_, fun j hj => ?_, ?_⟩
    · simp [St.len_add, St.len_put, e₃]
    · simp [St.get_add, St.get_put, St.len_add, St.len_put, e₃, hl₁, areaO, lput]
    · simp [St.get_add, St.get_put, St.len_add, St.len_put, e₃, g11]
    · simp [St.get_add, St.get_put, St.len_add, St.len_put, e₃]
    · simp [St.get_add, St.get_put, St.len_add, St.len_put, e₃]
    · simp [St.get_add, St.get_put, St.len_add, St.len_put, e₃]
    · have := low j hj
      simp [St.get_add, St.get_put, St.len_add, St.len_put, e₃, this, show (9 : Nat) ≠ j by omega, show j ≠ 12 by omega, show j ≠ 13 by omega, show j ≠ 14 by omega]
    · clear e₃ g9 g11 low hl hl₁
      wtm_at "st"
  · obtain ⟨t1, t2, t3, t4, t5, t6, t7, t8⟩ := hτ
    refine sp_enter (G.le (by omega)) t1 t2 (by rw [t7 8 (by omega)]; exact h8) t5 (by rw [t7 0 (by omega)]; exact hz) fun σ' H => ?_
    refine q σ' H.len (by rw [H.keep 9 (by omega) (by omega)]; exact t2) (by rw [H.keep 11 (by omega) (by omega)]; exact t3) (by rw [H.keep 12 (by omega) (by omega)]; exact t4) H.procs (by rw [H.keep 14 (by omega) (by omega)]; exact t6) (FixAt.of H) (fun j hj => by rw [H.keep j (by omega) (by omega)]; exact t7 j hj) (H.v0.trans t8)
end
end
section
noncomputable def iA : ISs := f31.body.upto 2
noncomputable def iB : ISs := (f31.body.from 2).upto 1
noncomputable def iC : ISs := (f31.body.from 3).upto 1
noncomputable def iD : ISs := (f31.body.from 4).upto 1
noncomputable def iE : ISs := (f31.body.from 5).upto 1
noncomputable def iG : ISs := (f31.body.from 6).upto 3
theorem body_eq : f31.body = iA.app (iB.app (iC.app (iD.app (iE.app (iG.app (forS.app endS)))))) := rfl
noncomputable def Z (σ : St) : Prop := (σ.get 0).isSome = true ∧ σ.ver 0 = 0
theorem Z.of {σ σ' : St} (z : Z σ) (h1 : σ'.get 0 = σ.get 0) (h2 : σ'.ver 0 = σ.ver 0) : Z σ' := ⟨by rw [h1]; exact z.1, by rw [h2]; exact z.2⟩
theorem intsOf_toInts (l : List Int) : intsOf (toInts l) = some l := by
  induction l with
  | nil => rfl
  | cons a l ih =>
    show ((some a).bind fun i => (intsOf (toInts l)).map fun l => i :: l) = _
    rw [ih]; rfl
section
variable {Γ : Env'} {σ : St} {ℓ : Loc} {K : Fl → Loc → St → Prop} {cells : List Int}
theorem iA_ok {script : List Int} (G : Ok 11 Γ) (h0 : σ.get 0 = some (.list (toInts script))) (hl : LenIs σ 1) (hs : script.length < 1000) (hz : Z σ) (hℓ : Has ℓ [(0, .obj 0)]) (h22 : ℓ 22 = none)
    (q : ∀ ℓ' σ', Z σ' → HandAt σ' (script.take 63) → LenIs σ' 3 → Has ℓ' [(1, .obj 1), (2, .obj 2)] → ℓ' 22 = none → K .next ℓ' σ') : wSs Γ iA ℓ σ K := by
  obtain ⟨ℓ, rfl⟩ := hℓ.ex
  have h22 : ℓ 22 = none := h22
  have hsl : (toInts script).length < 1000 := by rw [toInts, List.length_map]; exact hs
  have htk : (toInts script).take ((63 : Int).toNat) = toInts (script.take 63) := by simp [toInts, List.map_take]
  have hio := intsOf_toInts (script.take 63)
  simp only [iA, f31, ISs.upto]
  wtm_at "go"
  try rw [htk]
  wtm_at "go"
  try rw [hio]
  have hm := fmod_bd (a := (script.take 63).sum) (b := 100003) (by decide)
  wtm_at "go"
  have e1 : σ.len = 1 := hl
  refine q _ _ (hz.of (by wtm_at "st") (by wtm_at "st")) ⟨?_, 0, 0, (script.take 63).sum.fmod 100003 * 7, ?_, by omega, by omega, by omega, ?_, ?_⟩ ?_ ⟨?_, ?_, trivial⟩ h22
  · simp [St.get_add, St.len_add, e1]
  · simp [St.get_add, St.len_add, e1]
  · omega
  · omega
  · unfold LenIs; simp only [St.len_add, e1]
  · show some (V.obj σ.len) = _; rw [e1]
  · show some (V.obj (St.len _)) = _; simp only [St.len_add, e1]
theorem iB_ok (G : Ok 11 Γ) (hz : Z σ) (H : HandAt σ cells) (hl : LenIs σ 3) (hℓ : Has ℓ [(1, .obj 1), (2, .obj 2)]) (h22 : ℓ 22 = none)
    (q : ∀ ℓ' σ', Z σ' → SymL σ' TX0 FU0 → HandAt σ' cells → LenIs σ' 8 → Has ℓ' [(1, .obj 1), (2, .obj 2), (3, .obj 3)] → ℓ' 22 = none → K .next ℓ' σ') : wSs Γ iB ℓ σ K := by
  obtain ⟨ℓ, rfl⟩ := hℓ.ex
  have h22 : ℓ 22 = none := h22
  have e3 : σ.len = 3 := hl
  simp only [iB, f31, ISs.upto, ISs.from]
  wtm_at "w"
  rw [e3]
  refine sp_symbols (G.le (by omega)) (by rw [← e3, St.ga_len]) (by rw [St.len_add, e3]) (by rw [St.ga_old hz.1]; exact hz.1) fun σ' S k l v => ?_
  have kp : ∀ j, j < 3 → σ'.get j = σ.get j := fun j hj => by
    obtain ⟨o, ho⟩ := St.get_some (σ := σ) (i := j) (by omega)
    rw [k j (by rw [St.ga_old (by rw [ho]; rfl), ho]; rfl) (by omega), St.ga_old (by rw [ho]; rfl)]
  refine ⟨rfl, ?_⟩
  exact q _ _ (hz.of (kp 0 (by omega)) (v.trans (St.va_old hz.1))) S (H.keep (fun ζ => kp 1 (by omega)) fun ζ => kp 2 (by omega)) l ⟨rfl, rfl, rfl, trivial⟩ h22
theorem iC_ok (G : Ok 11 Γ) (hz : Z σ) (S : SymL σ TX0 FU0) (H : HandAt σ cells) (hl : LenIs σ 8) (hℓ : Has ℓ [(1, .obj 1), (2, .obj 2), (3, .obj 3)]) (h22 : ℓ 22 = none)
    (q : ∀ ℓ' σ', Z σ' → SymL σ' (TX0 ++ [Str.ofString "b"]) (FU0 ++ [(29, 1)]) → HandAt σ' cells → LenIs σ' 8 → Has ℓ' [(1, .obj 1), (2, .obj 2), (3, .obj 3), (4, .int 32)] → ℓ' 22 = none → K .next ℓ' σ') : wSs Γ iC ℓ σ K := by
  obtain ⟨ℓ, rfl⟩ := hℓ.ex
  have h22 : ℓ 22 = none := h22
  have h3 := S.i
  unfold symO at h3
  simp only [iC, f31, ISs.upto, ISs.from]
  wtm_at "go"
  refine S.func_nn (G.le (by omega)) (by decide +kernel) (by decide) (by decide +kernel) (by decide) fun σ' S' F => ?_
  refine q _ _ (hz.of (F.g 0 hz.1 (by omega)) (F.v 0 hz.1 (by omega))) S' (H.keep (fun h => F.g 1 h (by omega)) fun h => F.g 2 h (by omega)) (by unfold LenIs at *; rw [F.len]; exact hl) ⟨rfl, rfl, rfl, rfl, trivial⟩ h22
theorem iD_ok (G : Ok 11 Γ) (hz : Z σ) (S : SymL σ (TX0 ++ [Str.ofString "b"]) (FU0 ++ [(29, 1)])) (H : HandAt σ cells) (hl : LenIs σ 8) (hℓ : Has ℓ [(1, .obj 1), (2, .obj 2), (3, .obj 3), (4, .int 32)]) (h22 : ℓ 22 = none)
    (q : ∀ ℓ' σ', Z σ' → SymL σ' (TX0 ++ [Str.ofString "b"]) (FU0 ++ [(29, 1)]) → HandAt σ' cells → LenIs σ' 63 → σ'.get 9 = some (areaO 14) → σ'.get 11 = some (.list BOOT) → σ'.get 12 = some (.dict SH) → σ'.get 13 = some (.dict PF) → σ'.get 14 = some (.list []) → FixAt σ' → Has ℓ' [(1, .obj 1), (2, .obj 2), (3, .obj 3), (4, .int 32), (5, .obj 9)] → ℓ' 22 = none → K .next ℓ' σ') : wSs Γ iD ℓ σ K := by
  obtain ⟨ℓ, rfl⟩ := hℓ.ex
  have h22 : ℓ 22 = none := h22
  have e8 : σ.len = 8 := hl
  have hmk : mkD [.int 32, .int 0] [] = fun Q => (dfit (.int 32) [] ∧ (0 : Nat) < big) ∧ Q [(.int 32, .int 0)] := rfl
  simp only [iD, f31, ISs.upto, ISs.from]
  refine And.intro ⟨⟨by decide, fun ζ h => by cases h⟩, by decide⟩ ?_
  wtm_at "w"
  have e9 : (σ.add (.dict [(.int 32, .int 0)])).len = 9 := by rw [St.len_add, e8]
  have low : ∀ j, j < 8 → ((σ.add (.dict [(.int 32, .int 0)])).add (.inst 4 [])).get j = σ.get j := fun j hj => by
    obtain ⟨o, ho⟩ := St.get_some (σ := σ) (i := j) (by omega)
    rw [St.ga_old (by rw [St.ga_old (by rw [ho]; rfl), ho]; rfl), St.ga_old (by rw [ho]; rfl)]
  have g8 : ((σ.add (.dict [(.int 32, .int 0)])).add (.inst 4 [])).get 8 = some (.dict [(.int 32, .int 0)]) := by
    have : (σ.add (.dict [(.int 32, .int 0)])).get 8 = some (.dict [(.int 32, .int 0)]) := by rw [← e8, St.ga_len]
    rw [St.ga_old (by rw [this]; rfl), this]
  have g9 : ((σ.add (.dict [(.int 32, .int 0)])).add (.inst 4 [])).get 9 = some (.inst 4 []) := by rw [← e9, St.ga_len]
  have l10 : LenIs ((σ.add (.dict [(.int 32, .int 0)])).add (.inst 4 [])) 10 := by unfold LenIs; rw [St.len_add, e9]
  have hd0 : dput (V.int 32) (V.int 0) [] = [(V.int 32, V.int 0)] := rfl
  rw [hd0, e9, e8]
  refine sp_linkage (G.le (by omega)) g9 g8 l10 (by rw [low 0 (by omega)]; exact hz.1) fun σ' s1 s2 s3 s4 s5 s6 s7 s8 sv => ?_
  have t4 := low
  have kp : ∀ j, j < 8 → σ'.get j = σ.get j := fun j hj => by rw [s8 j (by omega), t4 j hj]
  refine ⟨rfl, ?_⟩
  exact q _ _ (hz.of (kp 0 (by omega)) (sv.trans (by rw [St.va_old (by rw [St.ga_old hz.1]; exact hz.1), St.va_old hz.1]))) (S.keep fun j h1 h2 ζ => kp j (by omega)) (H.keep (fun ζ => kp 1 (by omega)) fun ζ => kp 2 (by omega)) s1 s2 s3 s4 s5 s6 s7 ⟨rfl, rfl, rfl, rfl, rfl, trivial⟩ h22
/- the start, when the free functors are made -/
structure Ini (σ : St) (cells : List Int) (tx : List Str) (fu : List (Int × Int)) : Prop where
  S : SymL σ tx fu
  H : HandAt σ cells
  g9 : σ.get 9 = some (areaO 14)
  g11 : σ.get 11 = some (.list BOOT)
  g12 : σ.get 12 = some (.dict SH)
  g13 : σ.get 13 = some (.dict PF)
  g14 : σ.get 14 = some (.list [])
  fx : FixAt σ
theorem Ini.keep {σ σ' : St} {cells : List Int} {tx tx' : List Str} {fu fu' : List (Int × Int)} (I : Ini σ cells tx fu) (S : SymL σ' tx' fu') (k : ∀ j, (j < 4 ∨ 7 < j) → (σ.get j).isSome = true → σ'.get j = σ.get j) : Ini σ' cells tx' fu' :=
  ⟨S, I.H.keep (k 1 (by omega)) (k 2 (by omega)), by rw [k 9 (by omega) (by rw [I.g9]; rfl)]; exact I.g9, by rw [k 11 (by omega) (by rw [I.g11]; rfl)]; exact I.g11, by rw [k 12 (by omega) (by rw [I.g12]; rfl)]; exact I.g12,
    by rw [k 13 (by omega) (by rw [I.g13]; rfl)]; exact I.g13, by rw [k 14 (by omega) (by rw [I.g14]; rfl)]; exact I.g14, I.fx.keep fun j h1 h2 h => k j (by omega) h⟩
theorem iE_ok (G : Ok 11 Γ) (hz : Z σ) (I : Ini σ cells (TX0 ++ [Str.ofString "b"]) (FU0 ++ [(29, 1)])) (hl : LenIs σ 63) (hℓ : Has ℓ [(1, .obj 1), (2, .obj 2), (3, .obj 3), (4, .int 32), (5, .obj 9)]) (h22 : ℓ 22 = none)
    (q : ∀ ℓ' σ', Z σ' → Ini σ' cells (TX0 ++ [Str.ofString "b"] ++ [Str.ofString "p"] ++ [Str.ofString "a"]) (FU0 ++ [(29, 1)] ++ [(30, 1)] ++ [(30, 0)] ++ [(31, 3)]) → LenIs σ' 64 → σ'.get 63 = some (.list [.int 33, .int 34, .int 35]) → Has ℓ' [(1, .obj 1), (2, .obj 2), (3, .obj 3), (4, .int 32), (5, .obj 9), (6, .obj 63)] → ℓ' 22 = none → K .next ℓ' σ') : wSs Γ iE ℓ σ K := by
  obtain ⟨ℓ, rfl⟩ := hℓ.ex
  have h22 : ℓ 22 = none := h22
  have S := I.S
  have h3 := S.i
  have e63 : σ.len = 63 := hl
  unfold symO at h3
  simp only [iE, f31, ISs.upto, ISs.from]
  have atp : (TX0 ++ [Str.ofString "b"] ++ [Str.ofString "p"])[30]? = some (Str.ofString "p") := rfl
  wtm_at "go"
  refine S.func_nn (G.le (by omega)) (by decide +kernel) (by decide) (by decide +kernel) (by decide) fun σ₁ S₁ F₁ => ?_
  have h31 := S₁.i
  unfold symO at h31
  wtm_at "go"
  refine S₁.func_on (i := 30) (G.le (by omega)) (by decide +kernel) atp (by decide +kernel) (by decide) fun σ₂ S₂ F₂ => ?_
  have h32 := S₂.i
  unfold symO at h32
  wtm_at "go"
  refine S₂.func_nn (G.le (by omega)) (by decide +kernel) (by decide) (by decide +kernel) (by decide) fun σ₃ S₃ F₃ => ?_
  have FA := (F₁.trans F₂).trans F₃
  have l3 : σ₃.len = 63 := by rw [FA.len, e63]
  have S₃' : SymL (σ₃.add (.list [.int 33, .int 34, .int 35])) (TX0 ++ [Str.ofString "b"] ++ [Str.ofString "p"] ++ [Str.ofString "a"]) (FU0 ++ [(29, 1)] ++ [(30, 1)] ++ [(30, 0)] ++ [(31, 3)]) := S₃.keep fun j h1 h2 h => St.ga_old h
  have g63 : (σ₃.add (.list [.int 33, .int 34, .int 35])).get 63 = some (.list [.int 33, .int 34, .int 35]) := by rw [← l3, St.ga_len]
  have kp3 : ∀ j, (j < 4 ∨ 7 < j) → (σ.get j).isSome = true → (σ₃.add (.list [.int 33, .int 34, .int 35])).get j = σ.get j := fun j h1 h2 => by
    have := FA.g j h2 h1
    rw [St.ga_old (by rw [this]; exact h2), this]
  have l3' : LenIs (σ₃.add (.list [.int 33, .int 34, .int 35])) 64 := by unfold LenIs; rw [St.len_add, l3]
  wtm_at "w"
  rw [l3]
  have z3 : (σ₃.get 0).isSome = true := by rw [FA.g 0 hz.1 (by omega)]; exact hz.1
  exact q _ (σ₃.add (.list [.int 33, .int 34, .int 35])) (hz.of (kp3 0 (by omega) hz.1) (by rw [St.va_old z3]; exact FA.v 0 hz.1 (by omega))) (I.keep S₃' kp3) l3' g63 ⟨rfl, rfl, rfl, rfl, rfl, rfl, trivial⟩ h22
theorem iG_ok (G : Ok 11 Γ) (hz : Z σ) (I : Ini σ cells (TX0 ++ [Str.ofString "b"] ++ [Str.ofString "p"] ++ [Str.ofString "a"]) (FU0 ++ [(29, 1)] ++ [(30, 1)] ++ [(30, 0)] ++ [(31, 3)])) (hl : LenIs σ 64) (g63 : σ.get 63 = some (.list [.int 33, .int 34, .int 35]))
    (hℓ : Has ℓ [(1, .obj 1), (2, .obj 2), (3, .obj 3), (4, .int 32), (5, .obj 9), (6, .obj 63)]) (h22 : ℓ 22 = none) (q : ∀ ℓ' σ', Head cells 0 ℓ' σ' → K .next ℓ' σ') : wSs Γ iG ℓ σ K := by
  obtain ⟨ℓ, rfl⟩ := hℓ.ex
  have h22 : ℓ 22 = none := h22
  have S := I.S
  have h3 := S.i
  have e64 : σ.len = 64 := hl
  unfold symO at h3
  simp only [iG, f31, ISs.upto, ISs.from]
  wtm_at "go"
  refine S.func_nn (G.le (by omega)) (by decide +kernel) (by decide) (by decide +kernel) (by decide) fun σ₁ S₁ F₁ => ?_
  have l1 : σ₁.len = 64 := by rw [F₁.len, e64]
  have S₁' : Sym false ((σ₁.add (.list [.int 32, .int 36, .int 1, .int 20, .int 18, .int 31])).add (.dict [])) := SymL.keep (σ := σ₁) (tx := TXl false) (fu := FUl false) S₁ fun j h1 h2 h => by rw [St.ga_old (by rw [St.ga_old h]; exact h), St.ga_old h]
  have kp : ∀ j, (j < 4 ∨ 7 < j) → (σ.get j).isSome = true → ((σ₁.add (.list [.int 32, .int 36, .int 1, .int 20, .int 18, .int 31])).add (.dict [])).get j = σ.get j := fun j h1 h2 => by
    have := F₁.g j h2 h1
    rw [St.ga_old (by rw [St.ga_old (by rw [this]; exact h2), this]; exact h2), St.ga_old (by rw [this]; exact h2), this]
  have l2 : (σ₁.add (.list [.int 32, .int 36, .int 1, .int 20, .int 18, .int 31])).len = 65 := by rw [St.len_add, l1]
  have g64 : ((σ₁.add (.list [.int 32, .int 36, .int 1, .int 20, .int 18, .int 31])).add (.dict [])).get 64 = some (.list [.int 32, .int 36, .int 1, .int 20, .int 18, .int 31]) := by
    have : (σ₁.add (.list [.int 32, .int 36, .int 1, .int 20, .int 18, .int 31])).get 64 = some (.list [.int 32, .int 36, .int 1, .int 20, .int 18, .int 31]) := by rw [← l1, St.ga_len]
    rw [St.ga_old (by rw [this]; rfl), this]
  have g65 : ((σ₁.add (.list [.int 32, .int 36, .int 1, .int 20, .int 18, .int 31])).add (.dict [])).get 65 = some (.dict []) := by rw [← l2, St.ga_len]
  have I' := I.keep S₁' kp
  have R : Rep (fun i => if i = 14 then .wait else .fix i) ((σ₁.add (.list [.int 32, .int 36, .int 1, .int 20, .int 18, .int 31])).add (.dict [])) cells 0 false BOOT 14 [] 0 [] (fun ζ => ⟨"", [], none, false, 0, 0, 0, 0⟩) (fun ζ => ⟨"", [], none, false, 0, 0, 0, 0⟩) := by
    refine ⟨I'.H, S₁', ⟨I'.g9, I'.g11, I'.g12, by rw [I'.g13]; rfl, fun f hf => S₁'.free hf, fun i h1 h2 => if_neg h2⟩, BOOT_ok, by rw [BOOT_len]; omega, I'.fx, I'.g14, rfl, Nat.le_refl _, (fun f h => by cases h), (fun f h => by cases h), g65, ?_, g64, List.nodup_nil, (fun f h => by cases h), (fun f h => by cases h), (fun f h => by cases h), (fun f h => by cases h), Int.le_refl _, by decide, (fun f h => by cases h), by rw [St.len_add, l2]; omega, ?_⟩
    · rw [kp 63 (by omega) (by rw [g63]; rfl)]; exact g63
    · have z1 : (σ₁.get 0).isSome = true := by rw [F₁.g 0 hz.1 (by omega)]; exact hz.1
      exact hz.of (kp 0 (by omega) hz.1) (by rw [St.va_old (by rw [St.ga_old z1]; exact z1), St.va_old z1]; exact F₁.v 0 hz.1 (by omega))
  wtm_at "w"
  have a1 : (((FU0 ++ [((29 : Int), (1 : Int))] ++ [(30, 1)] ++ [(30, 0)] ++ [(31, 3)] : List (Int × Int)).length : Nat) : Int) = 36 := rfl
  have a2 : (24 : Int) + 7 = 31 := rfl
  rw [a1, a2, l2, l1]
  refine q _ _ ⟨h22, _, _, _, _, _, _, _, _, _, R, rfl, rfl, rfl, rfl, rfl, rfl, rfl, rfl, rfl, trivial⟩
theorem law_ok {script : List Int} {Q : V → St → Prop} {X : V → St → Prop} (G : Ok 11 Γ) (hs : script.length < 100) (q : ∀ σ', σ'.ver 0 = 0 → Q (.bool true) σ') : runFn Γ (some f31) [.obj 0] ⟨[(.list (toInts script), 0)]⟩ Q X := by
  refine ⟨rfl, ?_⟩
  show wSs Γ f31.body _ _ _
  have hcl : (script.take 63).length < 100 := by rw [List.length_take]; omega
  rw [body_eq, wSs_app]
  refine iA_ok G (script := script) rfl rfl (by omega) ⟨rfl, rfl⟩ ⟨rfl, trivial⟩ rfl fun ℓ σ z h1 h2 h3 h4 => ?_
  show wSs Γ _ ℓ σ _
  rw [wSs_app]
  refine iB_ok G z h1 h2 h3 h4 fun ℓ σ z S h1 h2 h3 h4 => ?_
  show wSs Γ _ ℓ σ _
  rw [wSs_app]
  refine iC_ok G z S h1 h2 h3 h4 fun ℓ σ z S h1 h2 h3 h4 => ?_
  show wSs Γ _ ℓ σ _
  rw [wSs_app]
  refine iD_ok G z S h1 h2 h3 h4 fun ℓ σ z S h1 h2 g9 g11 g12 g13 g14 fx h3 h4 => ?_
  show wSs Γ _ ℓ σ _
  rw [wSs_app]
  refine iE_ok G z ⟨S, h1, g9, g11, g12, g13, g14, fx⟩ h2 h3 h4 fun ℓ σ z I h2 g63 h3 h4 => ?_
  show wSs Γ _ ℓ σ _
  rw [wSs_app]
  refine iG_ok G z I h2 g63 h3 h4 fun ℓ σ H => ?_
  show wSs Γ _ ℓ σ _
  rw [wSs_app]
  refine for_ok G H hcl fun ℓ σ k H => ?_
  show wSs Γ _ ℓ σ _
  exact end_ok G H q
end
end
end Mine.Internal
end
section

open PySem PySem.W PySem.Calls PyProof.Rows
set_option maxRecDepth 100000
set_option maxHeartbeats 8000000
namespace Mine.Internal

noncomputable def caT : Nat → Addr
  | 0 => 174 | 1 => 295 | 2 => 469 | 3 => 560 | 4 => 670 | 5 => 689 | 6 => 51 | 7 => 71 | _ => 0
noncomputable def faL : List (Nat × Addr) := [(0, 80), (1, 87), (2, 185), (3, 192), (4, 199), (5, 206), (6, 215), (7, 222), (8, 306), (9, 313), (10, 320), (11, 327), (12, 334), (13, 341), (14, 348), (15, 355), (16, 362), (17, 369), (18, 376), (19, 383), (20, 390), (21, 397), (22, 404), (23, 411), (24, 418), (25, 425), (26, 432), (27, 439), (28, 445), (29, 700), (30, 707), (31, 712), (50, 101), (51, 236), (52, 459), (53, 487), (54, 578), (55, 686), (56, 48), (57, 68), (136, 108), (137, 115), (138, 129), (139, 136), (110, 122), (104, 143), (240, 250), (241, 292), (354, 466), (543, 585), (544, 592), (545, 599), (546, 606), (547, 620), (548, 627), (549, 634), (550, 648), (551, 655), (552, 662), (553, 667)]
noncomputable def faT (n : Nat) : Addr := (lget n faL).getD 0
/- the text of a function, seen so -/
noncomputable def fnOkB (K : Frag) (T : CT) (a : Addr) (f : FDef) : Bool := (fdOf K a).any fun fd => fnCheck K fd f.pars && chkSs T f.body fd.scope (stmtsOf fd)
theorem fnOk_of {K : Frag} {T : CT} {a : Addr} {f : FDef} (h : fnOkB K T a f = true) : FnOk K T a f := by
  obtain ⟨fd, h1, h2⟩ := oany_of h
  exact ⟨fd, h1, band_of h2⟩
/- all texts -/
noncomputable def fnsB (K : Frag) : Bool := fnList.all fun p => fnOkB K theCT (faT p.1) p.2 && !trySs p.2.body
theorem fns_of {K : Frag} (h : fnsB K = true) (id : Nat) (f : FDef) (e : tab id = some f) : FnOk K theCT (faT id) f ∧ trySs f.body = false := by
  obtain ⟨h1, h2⟩ := band_of (List.all_eq_true.mp h _ (tabGet_mem e))
  exact ⟨fnOk_of h1, bnot_of h2⟩
end Mine.Internal
end
section
open PySem PySem.W PySem.Calls PyProof.Rows
set_option maxRecDepth 100000
set_option maxHeartbeats 8000000
namespace Mine.Internal
noncomputable def gAll (p : Str → GV → Bool) : Bool := theCT.g.all fun x => p x.1 x.2
theorem g_of {p : Str → GV → Bool} (h : gAll p = true) {x : Str} {g : GV} (e : globOf theCT x = some g) : p x g = true := by
  unfold gAll at h
  rw [List.all_eq_true] at h
  exact h (x, g) (mem_of_lookup e)

noncomputable def usrF : Fn → Option Nat | .usr k => some k | _ => none
theorem usrF_eq {f : Fn} {k : Nat} (h : usrF f = some k) : f = .usr k := by cases f <;> first | exact no_some h | exact congrArg Fn.usr (sinj h)
noncomputable def isFn (x : Str) (g : GV) : Bool := (gF g).all fun f => (x == ("isinstance" : Str)) || (fnVal f).isSome || (usrF f).isSome
theorem g_fns : gAll isFn = true := by decide +kernel
theorem g_dbg : gAll (fun x ζ => !(x == ("__debug__" : Str))) = true := by decide +kernel
noncomputable def biOk (K : Frag) (x : Str) (g : GV) : Bool := (gF g).all fun f => (fnVal f).all fun v => nsIn K mainGlobals x == some none && bootBuiltins x == some v && x != ("__name__" : Str)
noncomputable def usrOk (K : Frag) (x : Str) (g : GV) : Bool := ((gF g).all fun f => (usrF f).all fun k => nsIn K mainGlobals x == some (some (.ref (faT k))) && keepIn K (.ref (faT k))) &&
  (gC g).all fun k => nsIn K mainGlobals x == some (some (.ref (caT k))) && keepIn K (.ref (caT k)) && ((k == 6) || (makesIn K (caT k) && findIn K (.ref (caT k)) "__init__" == some (some (.ref (faT (initId k)))) && typeIn K (.ref (faT (initId k))) == some (.type "function"))) &&
      specialIn K (.ref (caT k)) "__getattribute__" == some (some (.builtin "type.__getattribute__")) && readsIn K (caT k) (.type "type") && keepIn K (.ref (faT (initId k)))
theorem oall {α : Type} {p : α → Bool} {o : Option α} {a : α} (h : o.all p = true) (e : o = some a) : p a = true := by subst e; exact h
/- a tuple of one text -/
noncomputable def tupOne (s : Str) (o : Obj) : Bool := o.cls == .type "tuple" && o.dict.isNone && o.slots.toList.isEmpty && dSeq o.data fun xs ζ => (one xs.toList).any fun t => wStr t fun t ζ => t == s
noncomputable def valOk (K : Frag) (v : V) (w : Value) : Bool := ((vI v).any fun i => wInt w fun j ζ => i == j) || ((vT v).any fun l => (one l).any fun x => (vS x).any fun s => wRef w fun a => (K.lookup a).any (tupOne s))
theorem obj_ext {o : Obj} {c : Value} {d : Option Addr} {dt : Data} (h1 : o.cls = c) (h2 : o.dict = d) (h3 : o.data = dt) {l : List (Option Value)} (h4 : o.slots.toList = l) : o = ⟨c, d, dt, l.toArray⟩ := by
  cases o
  subst h1 h2 h3 h4
  rfl
theorem valOk_rel {K : Frag} {B : Heap} {v : V} {v' : Value} (e : valOk K v v' = true) (X : K.In B) (μ : Nat → Addr) (n : Nat) : VRel μ n B v v' := by
  refine (Bool.or_eq_true_iff.mp e).elim (fun e => oany e fun i h1 e => wInt_inv e fun j t h2 e => ?_) fun e => oany e fun l h1 e => oany e fun x h2 e => oany e fun s h3 e => wRef_inv e fun a h4 e => oany e fun o h5 e => band4 e fun e1 e2 e3 e => dSeq_inv e fun xs k h6 e => oany e fun t h7 e => wStr_inv e fun t' u h8 e => ?_
  · rw [vI_eq h1, h2, beqt e]; exact ⟨t, rfl⟩
  · rw [vT_eq h1, one_eq h2, vS_eq h3, h4]
    have := obj_ext (beqt e1) (Option.isNone_iff_eq_none.mp e2) h6 (emp e3)
    exact ⟨a, xs, k, rfl, (X _ _ h5).trans (congrArg some this), by rw [one_eq h7, h8, beqt e]; exact ⟨_, [], rfl, ⟨_, rfl⟩, rfl⟩⟩
noncomputable def gvOk (K : Frag) (x : Str) (g : GV) : Bool := (gV g).all fun v => (nsIn K mainGlobals x).any fun w => w.any (valOk K v)
noncomputable def isVal (f : Option CFound) (v : Value) : Bool := match f with | some (.val w) => w == v | _ => false
theorem isVal_of {f : Option CFound} {v : Value} (h : isVal f v = true) : f = some (.val v) := by
  cases f with
  | none => exact no_true h
  | some c => cases c <;> first | exact no_true h | exact congrArg (fun w => some (CFound.val w)) (beqt h)
noncomputable def baseOk (K : Frag) (_x : Str) (g : GV) : Bool := (gC g).all fun k => isVal (findCls K (.ref (caT k)) (.type "type") "__init__") (.ref (faT (initId k)))
noncomputable def methB (K : Frag) (cl n : Nat) : Bool := !methOk cl n || (findIn K (.ref (caT cl)) "__getattribute__" == some (some (.builtin "object.__getattribute__")) && findIn K (.ref (caT cl)) "__getattr__" == some none &&
  findIn K (.ref (caT cl)) (atName n) == some (some (.ref (faT (methId cl n)))) && typeIn K (.ref (faT (methId cl n))) == some (.type "function") && keepIn K (.ref (faT (methId cl n))))
noncomputable def methAll (K : Frag) : Bool := (List.range 5).all fun cl => (List.range 59).all fun n => methB K cl n
theorem lt_of_rest {p : Nat → Bool} {n : Nat} (h : ∀ k, p (n + k) = false) {m : Nat} (e : p m = true) : m < n := by
  rcases Nat.lt_or_ge m n with q | q
  · exact q
  · rw [← Nat.add_sub_cancel' q, h] at e; exact no_true e
theorem methOk_lt {cl n : Nat} (h : methOk cl n = true) : cl < 5 ∧ n < 59 := by
  have h1 : cl < 5 := lt_of_rest (p := fun cl => methOk cl n) (fun k => by rw [Nat.add_comm]; rfl) h
  refine ⟨h1, ?_⟩
  match cl, h1, h with
  | 0, _, h => exact lt_of_rest (p := methOk 0) (fun k => by rw [Nat.add_comm]; rfl) h
  | 1, _, h => exact lt_of_rest (p := methOk 1) (fun k => by rw [Nat.add_comm]; rfl) h
  | 2, _, h => exact lt_of_rest (p := methOk 2) (fun k => by rw [Nat.add_comm]; rfl) h
  | 3, _, h => exact no_true h
  | 4, _, h => exact Nat.lt_of_lt_of_le (ctrue (band_of h).2) (by decide)
noncomputable def fieldAll (K : Frag) : Bool := (List.range 6).all fun cl => (List.range 33).all fun m => !fieldOk cl m || fieldB K (caT cl) (atName m)
theorem fieldOk_lt {cl n : Nat} (h : fieldOk cl n = true) : cl < 6 ∧ n < 33 := by
  have h1 : cl < 6 := lt_of_rest (p := fun cl => fieldOk cl n) (fun k => by rw [Nat.add_comm]; rfl) h
  refine ⟨h1, ?_⟩
  match cl, h1, h with
  | 0, _, h => exact Nat.lt_of_lt_of_le (ctrue h) (by decide)
  | 1, _, h => exact Nat.lt_of_lt_of_le (ctrue (band_of h).2) (by decide)
  | 2, _, h => exact (Bool.or_eq_true_iff.mp h).elim (fun h => Nat.lt_of_lt_of_le (ctrue (band_of h).2) (by decide)) fun h => beqt h ▸ (by decide)
  | 3, _, h => exact no_true h
  | 4, _, h => exact Nat.lt_of_lt_of_le (ctrue (band_of h).2) (by decide)
  | 5, _, h => exact (Bool.or_eq_true_iff.mp h).elim (fun h => beqt h ▸ (by decide)) fun h => Nat.lt_of_lt_of_le (ctrue (band_of h).2) (by decide)
noncomputable def bornAll (K : Frag) : Bool := (["isinstance", "int", "str", "tuple", "bool"] : List String).all fun x => nsIn K mainGlobals x == some none && (Str.ofString x != ("__name__" : Str))
/- no list stands in the fragment -/
noncomputable def noList (K : Frag) : Bool := K.all fun p => p.2.cls != .type "list"
/- a namespace has this under this name -/
noncomputable def nsHas (K : Frag) (N : Addr) (n : Str) (v : Value) : Bool := (K.lookup N).any fun o => dDict o.data fun es ζ => (es.toList.find? fun e => e.key.isStr n).any fun e => e.val == v
noncomputable def clsShape (K : Frag) (C C2 : Addr) : Bool := (K.lookup C).any fun o => o.cls == .type "type" && dCls o.data fun cd => decide (cd.mro = [.ref C, .ref C2, .type "Exception", .type "BaseException", .type "object"]) && !cd.hasDel &&
      decide (o.slots.toList.length = 6) && decide (o.slots.toList[4]? = some (some (.builtin "Exception.__new__"))) && nsOkIn K cd.ns && nsHas K cd.ns "__init__" (.ref (faT 56))
noncomputable def ini2 (K : Frag) : Bool := (fdOf K (faT 56)).any fun fd => (two (fd.params.args.map (·.arg))).any fun n => decide (idxOf n.1 fd.scope.names 0 = some (0, .local)) && decide (idxOf n.2 fd.scope.names 0 = some (1, .local))
/- all that is asked of the written part -/
noncomputable def factL (K : Frag) : List Bool := [fnsB K, fnOkB K theCT (faT 31) f31, gAll (biOk K), gAll (usrOk K), gAll (gvOk K), gAll (baseOk K), methAll K, fieldAll K, bornAll K, noList K,
  clsShape K 51 31, tailIn K [.type "Exception", .type "BaseException", .type "object"] [.ref 31, .type "Exception", .type "BaseException", .type "object"], excMro K 51 31, excSet K 51 (atName 31), ini2 K,
  typeIn K (.ref (faT 56)) == some (.type "function"), findIn K (.ref 51) "__getattribute__" == some (some (.builtin "BaseException.__getattribute__")), findIn K (.ref 51) "__getattr__" == some none, hasDictIn K 51,
  exmOne K (.ref 51) (.ref 51) == some true, nsIn K mainGlobals "PrologError" == some (some (.ref 51)), nsIn K mainGlobals "law" == some (some (.ref (faT 31)))]
noncomputable def factsB (K : Frag) : Bool := (factL K).all fun b => b
noncomputable def KFacts (K : Frag) : Prop := factsB K = true
section
variable {K : Frag} (Z : KFacts K)
include Z
theorem KFacts.fns : fnsB K = true := all_at Z 0 rfl
theorem KFacts.law : fnOkB K theCT (faT 31) f31 = true := all_at Z 1 rfl
theorem KFacts.bi : gAll (biOk K) = true := all_at Z 2 rfl
theorem KFacts.usr : gAll (usrOk K) = true := all_at Z 3 rfl
theorem KFacts.val : gAll (gvOk K) = true := all_at Z 4 rfl
theorem KFacts.base : gAll (baseOk K) = true := all_at Z 5 rfl
theorem KFacts.meth : methAll K = true := all_at Z 6 rfl
theorem KFacts.field : fieldAll K = true := all_at Z 7 rfl
theorem KFacts.born : bornAll K = true := all_at Z 8 rfl
theorem KFacts.noL : noList K = true := all_at Z 9 rfl
theorem KFacts.shape : clsShape K 51 31 = true := all_at Z 10 rfl
theorem KFacts.tail : tailIn K [.type "Exception", .type "BaseException", .type "object"] [.ref 31, .type "Exception", .type "BaseException", .type "object"] = true := all_at Z 11 rfl
theorem KFacts.mro : excMro K 51 31 = true := all_at Z 12 rfl
theorem KFacts.set_ : excSet K 51 (atName 31) = true := all_at Z 13 rfl
theorem KFacts.ini : ini2 K = true := all_at Z 14 rfl
theorem KFacts.initC : typeIn K (.ref (faT 56)) = some (.type "function") := beqt (all_at Z 15 rfl)
theorem KFacts.get1 : findIn K (.ref 51) "__getattribute__" = some (some (.builtin "BaseException.__getattribute__")) := beqt (all_at Z 16 rfl)
theorem KFacts.get2 : findIn K (.ref 51) "__getattr__" = some none := beqt (all_at Z 17 rfl)
theorem KFacts.get3 : hasDictIn K 51 = true := all_at Z 18 rfl
theorem KFacts.exm : exmOne K (.ref 51) (.ref 51) = some true := beqt (all_at Z 19 rfl)
theorem KFacts.mgx : nsIn K mainGlobals "PrologError" = some (some (.ref 51)) := beqt (all_at Z 20 rfl)
theorem KFacts.mgl : nsIn K mainGlobals "law" = some (some (.ref (faT 31))) := beqt (all_at Z 21 rfl)
end
theorem facts_of {K : Frag} (h : factsB K = true) : KFacts K := h
theorem frag_mem {K : Frag} {b : Addr} {o : Obj} (h : K.lookup b = some o) : (b, o) ∈ K := by
  induction K with
  | nil => exact no_some h
  | cons p K ih =>
    obtain ⟨x, y⟩ := p
    rw [List.lookup_cons] at h
    cases e : b == x with
    | true => rw [e] at h; rw [beqt e, sinj h]; exact .head _
    | false => rw [e] at h; exact .tail _ (ih h)
end Mine.Internal
end
section
open PySem PySem.W PySem.Calls PyProof.Rows
set_option maxRecDepth 100000
set_option maxHeartbeats 8000000
namespace Mine.Internal
noncomputable def lawC (K : Frag) (w : World) (B : Heap) (os : OsState) (mg mb : Str → Option Value) : Cy := { prog := PySem.Challenge.pw_no0188_01, w := w, K := K, B := B, os := os, ca := caT, T := theCT, mg := mg, mb := mb, fa := faT }
section
variable {K : Frag} {w : World} {B : Heap} {os : OsState} {mg mb : Str → Option Value}
theorem mem_range_all {n : Nat} {p : Nat → Bool} (h : (List.range n).all p = true) {i : Nat} (hi : i < n) : p i = true := List.all_eq_true.mp h i (List.mem_range.mpr hi)
theorem lawCOk (Z : KFacts K) (X : K.In B) (Gm : B.Ns mainGlobals mg) (Gb : B.Ns builtinsNs mb) (L : B.NoLimit) : COk (lawC K w B os mg mb) where
  K := X
  g := Gm
  b := Gb
  lim := L
  gval := fun x v e => by
    have h := oall (o := some v) (g_of Z.val e) rfl
    exact oany h fun w h1 h => oany h fun v' h2 h => ⟨v', mg_of X Gm (h1.trans (congrArg some h2)), valOk_rel h X⟩
theorem lawFOk (Z : KFacts K) : FOk (lawC K w B os mg mb) where
  field := fun cl m h => by
    obtain ⟨h1, h2⟩ := fieldOk_lt h
    have := mem_range_all (mem_range_all Z.field h1) h2
    rw [h] at this
    exact ⟨h2, this⟩
theorem g_usr_cls (Z : KFacts K) {x : Str} {k : Nat} (e : globOf theCT x = some (.cls k)) : nsIn K mainGlobals x = some (some (.ref (caT k))) ∧ keepIn K (.ref (caT k)) = true ∧
    (k ≠ 6 → makesIn K (caT k) = true ∧ findIn K (.ref (caT k)) "__init__" = some (some (.ref (faT (initId k)))) ∧ typeIn K (.ref (faT (initId k))) = some (.type "function")) ∧
    specialIn K (.ref (caT k)) "__getattribute__" = some (some (.builtin "type.__getattribute__")) ∧ readsIn K (caT k) (.type "type") = true ∧ keepIn K (.ref (faT (initId k))) = true := by
  have h := oall (o := some k) (band_of (g_of Z.usr e)).2 rfl
  refine band6 h fun h1 h2 h3 h4 h5 h6 => ⟨beqt h1, h2, fun hk => ?_, beqt h4, h5, h6⟩
  exact (Bool.or_eq_true_iff.mp h3).elim (fun h => absurd (beqt h) hk) fun h => band3 h fun h1 h2 h3 => ⟨h1, beqt h2, beqt h3⟩
theorem lawStat (Z : KFacts K) (C0 : COk (lawC K w B os mg mb)) (hb : ∀ x : Str, x ≠ "__name__" → mb x = bootBuiltins x) : Stat (lawC K w B os mg mb) tab where
  C := C0
  F := lawFOk Z
  at_ := rfl
  dbg := fun x g e => by
    exact bnot_of (g_of g_dbg e)
  fns := fun x f e => by
    have h := oall (o := some f) (g_of g_fns e) rfl
    exact (Bool.or_eq_true_iff.mp h).elim (fun h => (Bool.or_eq_true_iff.mp h).imp id .inl) fun h => .inr (.inr (let ⟨k, h⟩ := Option.isSome_iff_exists.mp h; ⟨k, usrF_eq h⟩))
  bi := fun x f v e hv => by
    have h := oall (oall (o := some f) (g_of Z.bi e) rfl) hv
    exact band3 h fun h1 h2 h3 => ⟨ns_none_of C0.K C0.g (beqt h1), (hb x (bne_iff_ne.mp h3)).trans (beqt h2)⟩
  isi := by
    exact band2 (List.all_eq_true.mp Z.born "isinstance" (.head _)) fun h1 h2 => ⟨ns_none_of C0.K C0.g (beqt h1), (hb _ (bne_iff_ne.mp h2)).trans (by rfl)⟩
  tys := fun x hx => by
    refine band2 (List.all_eq_true.mp Z.born x (.tail _ hx)) fun h1 h2 => ⟨ns_none_of C0.K C0.g (beqt h1), (hb _ (bne_iff_ne.mp h2)).trans ?_⟩
    simp only [List.mem_cons, List.not_mem_nil, or_false] at hx
    rcases hx with rfl | rfl | rfl | rfl <;> rfl
  usr := fun x k e => by
    have h := oall (o := usrF (Fn.usr k)) (a := k) (oall (o := some (Fn.usr k)) (band_of (g_of Z.usr e)).1 rfl) rfl
    exact band2 h fun h1 h2 => ⟨mg_of C0.K C0.g (beqt h1), h2⟩
  cls := fun x k e => ⟨mg_of C0.K C0.g (g_usr_cls Z e).1, (g_usr_cls Z e).2.1⟩
  init := fun x k e hk => (g_usr_cls Z e).2.2.1 hk
  base := fun x k e => ⟨(g_usr_cls Z e).2.2.2.1, (g_usr_cls Z e).2.2.2.2.1, isVal_of (oall (o := some k) (g_of Z.base e) rfl), (g_usr_cls Z e).2.2.2.2.2⟩
  meth := fun cl n h => by
    obtain ⟨h1, h2⟩ := methOk_lt h
    have z := mem_range_all (mem_range_all Z.meth h1) h2
    unfold methB at z
    rw [h] at z
    exact band5 z fun h3 h4 h5 h6 h7 => ⟨h2, beqt h3, beqt h4, beqt h5, beqt h6, h7⟩
  fn := fns_of Z.fns
end
end Mine.Internal
end
section
open PySem PySem.W PySem.Calls PyProof.Rows
set_option maxRecDepth 100000
set_option maxHeartbeats 8000000
namespace Mine.Internal
@[elab_as_elim] theorem len_cons {α : Type} {l : List α} {n : Nat} {C : List α → Prop} (h : l.length = n + 1) (K : ∀ k r, r.length = n → C (k :: r)) : C l := by
  cases l with
  | nil => exact nomatch h
  | cons k r => exact K k r (Nat.succ.inj h)
theorem list6 {α : Type} {l : List α} {x : α} (h : l.length = 6) (h4 : l[4]? = some x) : ∃ k0 k1 k2 k3 k5, l = [k0, k1, k2, k3, x, k5] := by
  revert h4
  refine len_cons h fun k0 ζ h => len_cons h fun k1 ζ h => len_cons h fun k2 ζ h => len_cons h fun k3 ζ h => len_cons h fun k4 ζ h => len_cons h fun k5 r h h4 => ?_
  rw [List.length_eq_zero_iff.mp h]
  exact ⟨k0, k1, k2, k3, k5, congrArg (fun x => [k0, k1, k2, k3, x, k5]) (sinj h4)⟩
theorem ns_some_of {K : Frag} {h : Heap} {N : Addr} {mg : Str → Option Value} {n : Str} {v : Value} (X : K.In h) (G : h.Ns N mg) (e : nsHas K N n v = true) : mg n = some v := by
  obtain ⟨o, es, ep, ho, hd, _, hf⟩ := G
  refine oany e fun o' hl e => dDict_inv e fun es' n' hd' e => oany e fun en he e => ?_
  rw [sinj ((X _ _ hl).symm.trans ho), hd] at hd'
  rw [← hf]
  unfold nsFind findBy
  rw [← Array.find?_toList, (Data.dict.inj hd').1, he]
  exact congrArg some (beqt e)
section
variable {K : Frag} {w : World} {B : Heap} {os : OsState} {mg mb : Str → Option Value}
theorem lawXFacts (Z : KFacts K) (X : K.In B) (Gm : B.Ns mainGlobals mg) : XFacts (lawC K w B os mg mb) where
  obj := by
    refine oany Z.shape fun o hl h => band2 h fun h1 h => dCls_inv h fun cd h2 h => band6 h fun h3 h4 h5 h6 h7 h8 => ?_
    obtain ⟨k0, k1, k2, k3, k5, hs⟩ := list6 (ctrue h5) (ctrue h6)
    obtain ⟨nm, bs, mro, ns, q, hd, sn, sub, ab, col, del⟩ := cd
    have g3 : mro = _ := ctrue h3
    have g4 : del = false := bnot_of h4
    subst g3 g4
    refine ⟨nm, q, ns, bs, hd, sn, sub, ab, col, o.dict, k0, k1, k2, k3, k5, 31, B.nsMap ns, ?_, .of_isNs (isNs_of_in X h7), ns_some_of X (.of_isNs (isNs_of_in X h7)) h8, tail_of_in X Z.tail, Z.mro⟩
    exact hl.trans (congrArg some (obj_ext (beqt h1) rfl h2 hs))
  set_ := Z.set_
  init := (fns_of Z.fns 56 f56 rfl).1
  init2 := by
    exact oany Z.ini fun fd h1 h => oany h fun n h2 h => band2 h fun h3 h4 => ⟨fd, n.1, n.2, h1, two_eq h2, ctrue h3, ctrue h4⟩
  initC := Z.initC
  get_ := ⟨Z.get1, Z.get2, Z.get3⟩
  exm := Z.exm
  mgx := mg_of X Gm Z.mgx
end
end Mine.Internal
end
section
open PySem PySem.W PyProof.Rows
set_option maxRecDepth 100000
set_option maxHeartbeats 8000000
namespace Mine.Internal
abbrev pw := PySem.Challenge.pw_no0188_01
def hEnv : Env := { scope := pw.main.scope, locals := mainNs, globals := mainNs, cells := [], code := Value.ref 13, frame := some 14 }
def hB : List Stmt := behindTheImports pw
def hC : Code := .body hB hEnv
abbrev q0 : Pos := ⟨0, 0, 0, 0⟩
theorem hd_open : opening pw = plainProg pw.main.scope.names := by rfl
theorem hd_fence (s : Shared) : fenceModules? pw s = some s := by rfl
theorem open_ : ∀ w : World, (fencedOpening treeTable pw w 9626).map (fun s => (s.heap, s.gens, s.drawn, s.toks)) = some (boot_heap w.params, Array.mk [], boot_drawn, boot_toks) := boot_open hd_open (by decide +kernel) hd_fence
theorem size_ (w : World) : ((boot_heap w.params).isNs mainGlobals && (Array.mk [] : Array GenState).size == 0, (boot_heap w.params).objs.size, (boot_heap w.params).nsMap mainGlobals "__annotations__") = (true, 11, some (.ref 6)) := by kernel_rfl
end Mine.Internal
end
section
open PySem PySem.W PyProof.Rows
set_option maxRecDepth 100000
set_option maxHeartbeats 8000000
namespace Mine.Internal
def o43 : Obj := { cls := Value.type "tuple", data := Data.seq #[] }
def o44 : Obj := { cls := Value.none, data := Data.fields #[] }
def o45 : Obj := ⟨.type "code", none, .fields #[.str "<module>" 182, .str "<module>" 183, .str "/claim/cut.py" 184, .int 1 0, .int 0 0, .int 0 0, .int 0 0, .int 0 0, .ref 11, .bool false, .int 181 0, .ref 12, .none, .none, .none, .none, .int 185 0, .int 1 0, .str "/claim/cut.py" 186], #[]⟩
def o46 : Obj := ⟨.type "frame", none, .plain, #[some (.ref 13), some (.ref 3), some (.ref 3), none, some (.str "__main__" 164), none, some (.ref 0)]⟩
noncomputable def preH (P : Params) : Heap := ⟨(boot_heap P).objs ++ #[o43, o44, o45, o46], {}⟩
theorem pre_ (w : World) (os : OsState) : topGo treeTable pw w 11 (some (.ref 6)) 12 ⟨boot_heap w.params, #[], boot_drawn, boot_toks, os⟩ (topStub pw) = some (⟨preH w.params, #[], {}, 187, os⟩, ⟨denote treeTable hC, hC, q0, [topFrame q0]⟩) := by
  rw [Fast.te15667345088766844465, Fast.te14364793385576792824, Fast.te11892475500146522536]
  kernel_rfl
def ofL (l : List Obj) : BT := (l.foldl (fun (x : BT × Nat) o => (x.1.ins x.2 o, x.2 + 1)) (.nil, 0)).1
noncomputable def t0 (P : Params) : BT := ofL ((boot_heap P).objs.toList ++ [o43, o44, o45, o46])
noncomputable def S0 (w : World) (os : OsState) : SharedT := ⟨t0 w.params, 15, {}, #[], {}, 187, os⟩
theorem block_ (w : World) (os : OsState) : segRun treeTable pw w 11 (some (.ref 6)) 1 1 ⟨preH w.params, #[], {}, 187, os⟩ (PySem.W.blockOf hB hEnv hC q0 [topFrame q0]) = some (.next, (S0 w os).abs, hC, q0) := by
  rw [Fast.te14374325043358763698, Fast.te14364793385576792824]
  kernel_rfl
end Mine.Internal
end
section
open PySem PySem.W PySem.Calls PyProof.Rows
set_option maxRecDepth 100000
set_option maxHeartbeats 8000000
namespace Mine.Internal
/- each look by itself: a declaration for each -/
theorem law_said : OpenLaw.wellSaid PySem.Challenge.rw_no0188_01 = true := by
  rw [Fast.te9446332074065402090]
  unfold Fast.tw9446332074065402090
  repeat' (with_reducible refine look_both ?_ ?_)
  unfold Fast.tw17960256430627541270
  repeat' (with_reducible refine look_both ?_ ?_)
  unfold Fast.tw2436336058641802641
  repeat' (with_reducible refine look_both ?_ ?_)
  unfold Fast.tw12908688711261696721
  repeat' (with_reducible refine look_both ?_ ?_)
  all_goals (as_aux_lemma => kernel_rfl)
def qv : Program := view pw [69]
def lz : List Str := pw.boundNames.filter (fun n => n != ("law" : Str))
def mods : List Str := importedModules pw.main.body
abbrev rr : OpenRow := PySem.Challenge.rw_no0188_01.row
def Xt (s : Shared) : Bool := recOk rr.records s
/- the run of the whole top -/
noncomputable def run9 (w : World) (os : OsState) := Fast.tw10110043849684766642 Fast.tw14364793385576792824 pw w 11 (some (.ref 6)) 1 4800 (S0 w os) ⟨(Fast.tw12563942051412417395 hB hEnv).wrap doneF deadEnd id id, hC, q0, [topFrame q0]⟩
noncomputable def looksA (P : Params) (s : Shared) : Bool := staticsOk mods (boot_heap P) s.heap && namesBound pw s.heap && gensDone s && laidKept (boot_heap P) s.heap
/- the objects that stand, but lists -/
def okObj (o : Obj) : Bool := !(o.cls == .type "list") && (match o.data with | .freed => false | _ => true)
noncomputable def fragL : Nat → List Obj → Frag
  | _, [] => []
  | n, o :: r => match okObj o with | true => (n, o) :: fragL (n + 1) r | false => fragL (n + 1) r
noncomputable def fragOf (h : Heap) : Frag := fragL 0 h.objs.toList
theorem fragL_mem : ∀ {l : List Obj} {n a : Nat} {o : Obj}, (a, o) ∈ fragL n l → n ≤ a ∧ l[a - n]? = some o ∧ okObj o = true
  | [], _, _, _, h => nomatch h
  | x :: l, n, a, o, h => by
    unfold fragL at h
    have next : (a, o) ∈ fragL (n + 1) l → n ≤ a ∧ (x :: l)[a - n]? = some o ∧ okObj o = true := fun h => by
      obtain ⟨h1, h2, h3⟩ := fragL_mem h
      exact ⟨by omega, by rw [show a - n = a - (n + 1) + 1 by omega]; exact h2, h3⟩
    cases e : okObj x with
    | false => rw [e] at h; exact next h
    | true =>
      rw [e] at h
      cases h with
      | head => exact ⟨Nat.le_refl _, by rw [Nat.sub_self]; rfl, e⟩
      | tail _ h => exact next h
theorem frag_in (h : Heap) : (fragOf h).In h := fun a o e => by
  obtain ⟨_, h2, h3⟩ := fragL_mem (frag_mem e)
  have h2 : h.objs[a]? = some o := by rw [← Array.getElem?_toList]; exact h2
  unfold Heap.get?
  rw [h2]
  obtain ⟨c, d, dt, sl⟩ := o
  cases dt <;> first | rfl | exact absurd h3 (by unfold okObj; simp)
theorem runB (w : World) (os : OsState) : (run9 w os).map (fun r => (r.1, r.2.2.1, r.2.1.gens, r.2.1.life, looksA w.params r.2.1.abs, Fast.tw4187177175401517315 qv lz mods Xt true r.2.1.abs)) = some (.next, hC, #[], {}, true, openGood qv lz) := by
  kernel_rfl
theorem runC (w : World) (os : OsState) : (run9 w os).map (fun r => fnsB (fragOf r.2.1.abs.heap)) = some true := by
  kernel_rfl
theorem runD (w : World) (os : OsState) : (run9 w os).map (fun r => (factL (fragOf r.2.1.abs.heap)).tail.all fun b => b) = some true := by
  kernel_rfl
theorem facts_two {K : Frag} (h1 : fnsB K = true) (h2 : ((factL K).tail.all fun b => b) = true) : factsB K = true := look_both h1 h2
end Mine.Internal
end
section
open PySem PySem.W PySem.Calls PyProof.Rows
set_option maxRecDepth 100000
set_option maxHeartbeats 8000000
namespace Mine.Internal
theorem lawDef : ∃ d kwd, defOf qv rr.name = some (d, kwd) ∧ pw.theDef rr.name = some (d.params, d.body, d.scope) ∧ kwWritten? d.params.kwonlyargs d.params.kw_defaults = some kwd ∧ d.name = ("law" : Str) := ⟨_, _, rfl, rfl, rfl, rfl⟩
noncomputable def yf (s : Shared) : Bool := factsB (fragOf s.heap)
theorem seg_of {w : World} {os : OsState} {r} (hr : run9 w os = some r) : segRunT treeTable pw w 11 (some (.ref 6)) 1 4800 (S0 w os) (piecesOf hB hEnv hC q0 [topFrame q0]) = some r := by
  show segRunT treeTable pw w 11 (some (.ref 6)) 1 4800 (S0 w os) ⟨(execs hB hEnv).wrap doneF deadEnd id id, hC, q0, [topFrame q0]⟩ = _
  rw [Fast.te10110043849684766642, Fast.te14364793385576792824, Fast.te12563942051412417395]
  exact hr
theorem fin_of {w : World} {s : Shared} {c : Code} {p : Pos} : topRun treeTable pw w 11 (some (.ref 6)) 2 s ⟨doneF .next, c, p, [topFrame q0]⟩ = some s := rfl
theorem top_of {w : World} {os : OsState} {S : SharedT} {p : Pos} (hr : run9 w os = some (.next, S, hC, p)) :
    topRun treeTable pw w 11 (some (.ref 6)) 9626 ⟨boot_heap w.params, #[], boot_drawn, boot_toks, os⟩ (topStub pw) = some S.abs := by
  have h1 := piece_app (rest := []) (segRun_of (seg_of hr)) (piece_nil fin_of)
  rw [List.append_nil] at h1
  exact topRun_mono 4811 _ _ _ _ (go_top (pre_ w os) (piece_block (block_ w os) h1))
theorem from_of {w : World} {s s' : Shared} (z1 : (s.heap.isNs mainGlobals && s.gens.size == 0) = true) (z2 : s.heap.objs.size = 11) (z3 : s.heap.nsMap mainGlobals "__annotations__" = some (.ref 6))
    (h : topRun treeTable pw w 11 (some (.ref 6)) 9626 s (topStub pw) = some s') (hA : (staticsOk (importedModules pw.main.body) s.heap s'.heap && namesBound pw s'.heap && gensDone s' && laidKept s.heap s'.heap) = true) : topFrom treeTable pw w 9626 s = some s' := by
  unfold topFrom
  rw [z1, z2, z3, h]
  show (match staticsOk (importedModules pw.main.body) s.heap s'.heap && namesBound pw s'.heap && gensDone s' && laidKept s.heap s'.heap with | true => some s' | false => none) = _
  rw [hA]
theorem run_of (w : World) (os : OsState) : ∃ S p, run9 w os = some (.next, S, hC, p) ∧ looksA w.params S.abs = true ∧ openSeen qv lz mods Xt true S.abs = openGood qv lz ∧ yf S.abs = true := by
  obtain ⟨⟨fl, S, c, p⟩, hr, hv⟩ := Option.map_eq_some_iff.mp (runB w os)
  have h1 : some (fnsB (fragOf S.abs.heap)) = some true := by
    rw [← runC w os, hr]
    rfl
  have h2 : some ((factL (fragOf S.abs.heap)).tail.all fun b => b) = some true := by
    rw [← runD w os, hr]
    rfl
  have hc : some (yf S.abs) = some true := congrArg some (facts_two (Option.some.inj h1) (Option.some.inj h2))
  obtain ⟨hf, hv⟩ := Prod.mk.inj hv
  obtain ⟨hcc, hv⟩ := Prod.mk.inj hv
  obtain ⟨_, hv⟩ := Prod.mk.inj hv
  obtain ⟨_, hv⟩ := Prod.mk.inj hv
  obtain ⟨hA, hB'⟩ := Prod.mk.inj hv
  have hf : fl = .next := hf
  have hcc : c = hC := hcc
  refine ⟨S, p, by rw [hr, hf, hcc], hA, ?_, Option.some.inj hc⟩
  rw [Fast.te4187177175401517315]
  exact hB'
theorem looks_of {P : Params} {s : Shared} (h : looksA P s = true) : (staticsOk (importedModules pw.main.body) (boot_heap P) s.heap && namesBound pw s.heap && gensDone s && laidKept (boot_heap P) s.heap) = true := h
theorem size_of (w : World) : ((boot_heap w.params).isNs mainGlobals && (Array.mk [] : Array GenState).size == 0) = true ∧ (boot_heap w.params).objs.size = 11 ∧ (boot_heap w.params).nsMap mainGlobals "__annotations__" = some (.ref 6) :=
  ⟨congrArg Prod.fst (size_ w), congrArg (fun x => x.2.1) (size_ w), congrArg (fun x => x.2.2) (size_ w)⟩
theorem ends_of {w : World} {s s' : Shared} (h1 : fencedOpening treeTable pw w 9626 = some s) (h2 : topFrom treeTable pw w 9626 s = some s') : openEnds treeTable pw w 9626 = some s' := by
  unfold openEnds
  rw [h1]
  exact h2
theorem left_ : LeftO pw qv lz Xt yf (fun ζ => true) 9626 := fun w => by
  obtain ⟨s, e, e'⟩ := Option.map_eq_some_iff.mp (open_ w)
  obtain ⟨h, gs, d, k, os⟩ := s
  obtain ⟨e1, e'⟩ := Prod.mk.inj e'
  obtain ⟨e2, e'⟩ := Prod.mk.inj e'
  obtain ⟨e3, e4⟩ := Prod.mk.inj e'
  have e1 : h = boot_heap w.params := e1
  have e2 : gs = Array.mk [] := e2
  have e3 : d = boot_drawn := e3
  have e4 : k = boot_toks := e4
  subst e1 e2 e3 e4
  obtain ⟨S, p, hr, hA, hB, hc⟩ := run_of w os
  obtain ⟨z1, z2, z3⟩ := size_of w
  rw [ends_of e (from_of z1 z2 z3 (top_of hr) (looks_of hA))]
  exact congrArg some (Prod.ext hB hc)
end Mine.Internal
end
section
open PySem PySem.W PySem.Calls PyProof.Rows
set_option maxRecDepth 100000
set_option maxHeartbeats 8000000
namespace Mine.Internal
/- the heap without one object -/
def without (h : Heap) (a : Addr) : Heap := { h with objs := h.objs.setIfInBounds a { cls := .none, data := .freed } }
theorem without_get {h : Heap} {a b : Addr} (ha : a < h.objs.size) : (without h a).get? b = if b = a then none else h.get? b := by
  unfold without Heap.get?
  simp only [Array.getElem?_setIfInBounds]
  by_cases e : b = a
  · subst e
    rw [if_pos rfl, if_pos rfl, if_pos ha]
  · rw [if_neg (Ne.symm e), if_neg e]
theorem without_ns {h : Heap} {a N : Addr} {m : Str → Option Value} {xs : Array Value} {k : Nat} (ha : h.get? a = some (lobj xs k)) (n : h.Ns N m) : (without h a).Ns N m := by
  obtain ⟨o, es, ep, ho, hd, r⟩ := n
  refine ⟨o, es, ep, ?_, hd, r⟩
  rw [without_get (Heap.lt_size ha), if_neg]
  · exact ho
  · rintro rfl
    rw [ha] at ho; cases ho; cases hd
theorem ints_rel {μ : Nat → Addr} {n : Nat} {h : Heap} : ∀ {vs : List Value} {ns : List Int}, IntsAre vs ns → VsRel μ n h (toInts ns) vs
  | _, _, .nil => rfl
  | _, _, .cons i t r => ⟨_, _, rfl, ⟨t, rfl⟩, ints_rel r⟩
theorem law_final {K : Frag} (Z : KFacts K) {w : World} {s₁ : Shared} {mg mb : Str → Option Value} {a fa : Addr} {xs : Array Value} {k : Nat} {script : List Int} (KX : K.In s₁.heap) (Tg : s₁.heap.Ns mainGlobals mg) (Tb : s₁.heap.Ns builtinsNs mb) (TL : s₁.heap.NoLimit)
    (hbu : ∀ x : Str, x ≠ "__name__" → mb x = bootBuiltins x) (hg : s₁.gens = #[]) (hmg : mg "law" = some (.ref fa)) (ha : s₁.heap.get? a = some (lobj xs k)) (hI : IntsAre xs.toList script) (hlen : script.length < 100) :
    wpAny (model PySem.Challenge.pw_no0188_01 w) callerA (call (.ref fa) [.ref a]) (fun v s' => v = .bool true ∧ (∀ b o, s₁.heap.get? b = some o → s'.heap.get? b = some o) ∧ s'.os = s₁.os ∧ s'.gens = #[]) (fun ζ ζ => False) s₁ := by
  have hsz := Heap.lt_size ha
  have KB : K.In (without s₁.heap a) := fun b o e => by
    rw [without_get hsz, if_neg]
    · exact KX b o e
    · rintro rfl
      have h1 := KX _ _ e
      rw [ha] at h1; cases h1
      have hm := frag_mem e
      have h0 := Z.noL
      unfold noList at h0
      have h2 := List.all_eq_true.mp h0 _ hm
      have h3 : ((Value.type "list") != Value.type "list") = true := h2
      exact absurd h3 (by decide)
  have Gm := without_ns ha Tg
  have Gb := without_ns ha Tb
  have L : (without s₁.heap a).NoLimit := let ⟨mc, h1, h2⟩ := TL; ⟨mc, without_ns ha h1, h2⟩
  have C0 := lawCOk (w := w) Z (os := s₁.os) KB Gm Gb L
  have S := lawStat Z C0 hbu
  have XF := lawXFacts (w := w) Z (os := s₁.os) (mb := mb) KB Gm
  have OO : Ops (lawC K w (without s₁.heap a) s₁.os mg mb) sortRows := ops C0 rfl XF
  have hfa : fa = faT 31 := by
    have := mg_of KX Tg Z.mgl
    rw [hmg] at this
    cases this; rfl
  have used : ∀ j, Used ⟨[(.list (toInts script), 0)]⟩ j → j = 0 := fun j ⟨o, h1, h2⟩ => by
    have h0 : j / 2 = 0 := by
      have := St.get_lt h1
      have l1 : St.len ⟨[(O.list (toInts script), 0)]⟩ = 1 := rfl
      omega
    rw [h0] at h1
    cases h1
    rcases h2 with h2 | h2
    · omega
    · cases h2
  have R : Rel (lawC K w (without s₁.heap a) s₁.os mg mb).toCx (fun ζ => a) ⟨[(.list (toInts script), 0)]⟩ s₁ := by
    refine ⟨fun b o e => ?_, hg, rfl, fun j ζ => ?_, fun i j hi hj ζ => by rw [used i hi, used j hj], fun i o e => ?_⟩
    · have e : (without s₁.heap a).get? b = some o := e
      rw [without_get hsz] at e
      split at e
      · cases e
      · exact e
    · show (without s₁.heap a).get? a = none
      rw [without_get hsz, if_pos rfl]
    · have h0 : i = 0 := by
        have := St.get_lt e
        have l1 : St.len ⟨[(O.list (toInts script), 0)]⟩ = 1 := rfl
        omega
      subst h0
      cases e
      exact ⟨xs, k, ha, ints_rel hI⟩
  subst hfa
  refine wpAny_call (codeAny_mono (law_sim (D := 20) (id := 31) (f := f31) (μ := fun ζ => a) (σ := ⟨[(.list (toInts script), 0)]⟩) (vs := [.obj 0]) (Q := fun v σ' => v = .bool true ∧ σ'.ver 0 = 0) S OO (fnOk_of Z.law) ⟨rfl, by decide +kernel, by decide +kernel⟩ rfl R ⟨_, [], rfl, ⟨by show 0 < 1; omega, rfl⟩, rfl⟩
    (law_ok ⟨20, by omega, rfl⟩ hlen fun σ' h => ⟨rfl, h⟩)) fun r s' z => ?_)
  cases r with
  | error e => exact z.elim
  | ok f =>
    cases f with
    | ret v =>
      obtain ⟨μ', σ', v0, ⟨rfl, hv⟩, R', S', rv⟩ := z
      refine ⟨rv, fun b o e => ?_, R'.os, R'.gens⟩
      by_cases hb : b = a
      · subst hb
        exact S'.still 0 ⟨_, rfl, .inl rfl⟩ hv (by intro h; cases h) o e
      · exact S'.keep b o e (fun j ζ => Ne.symm hb) (fun h => h)
    | _ => exact z.elim
end Mine.Internal
end
section
open PySem PySem.W PySem.Calls PyProof.Rows
set_option maxRecDepth 100000
set_option maxHeartbeats 8000000
namespace Mine.Internal
theorem ok_ : (chainsOk qv && opensWell rr.prog && (frees rr.toRowW && rr.within.isEmpty)) = true := by kernel_rfl
theorem bare_ : rr.prog.bare := ⟨rfl, rfl, rfl, rfl, rfl, by decide +kernel⟩
theorem said_ : rr.wellSaid = true := row_said law_said
theorem wit_ : rr.toRowW.promised := by w_witness2
set_option tactic.hygienic true in
theorem X0 : PySem.Challenge.rw_no0188_01.Holds := by
  obtain ⟨d, kwd, h1, h2, h3, hn⟩ := lawDef
  refine ⟨law_said, holds_open (r := rr) (q := qv) (loose := lz) (Xt := Xt) (XP := fun ζ ζ => True) (Yf := yf) (Ya := fun ζ => true) (YP := fun ζ h => ∃ K : Frag, K.In h ∧ KFacts K) (N := 9626)
    left_ (fun w s e => ⟨fragOf s.heap, frag_in s.heap, facts_of e⟩) (fun w h h' ⟨K, X, Z⟩ k => ⟨K, fun a o e => k _ _ (X a o e), Z⟩) (fun ζ ζ => trivial) (fun ζ ζ ζ ζ ζ => trivial) h1 h2 h3 (fun s e => recFacts_of e) rfl said_ ok_ bare_ wit_ ?_⟩
  intro w s₀ s₁ mg mb G Y fa o pm cd doc dV kV ho hd hcd hD hmg hg args vals as hpre hlay hrd hwl hlo
  obtain ⟨K, KX, Z⟩ := Y
  rw [hn] at hmg
  refine Ground.open G ?_
  intro T B D TE TW
  clear hD hd hcd
  wrow_args hpre hlay hrd hwl hlo
  rename_i ns _ _ _ _ _ _ _ a vs _ hL _ w1 _ hI _ hcond _
  have w2 : Well w.params s₁.heap (.ref a) (.list (ofPys (ns.map PyData.int))) := w1
  cases w2 with
  | list h1 h2 =>
    rename_i vs'
    have hvs : vs'.toArray = vs.toArray := by
      obtain ⟨o', e1, e2, n, e3⟩ := hL
      rw [h1] at e1
      cases e1
      cases e3
      rfl
    have hl : ns.length < 100 := by omega
    refine wpAny_mono (law_final Z (mb := mb) (k := 0) (xs := vs.toArray) KX T.g T.b T.nolimit T.builtins hg hmg (by rw [h1, hvs]) (by simpa using hI) hl) (fun v s' z => ?_) fun ζ ζ z => z.elim
    obtain ⟨rfl, z2, z3, z4⟩ := z
    refine ⟨.inl ⟨_, .bool true, [], rfl, fun ζ => rfl, .bool true, ?_, fun ζ => ⟨List.nodup_nil, fun ζ h => by cases h⟩⟩, OldK.of_keep z2, z3, AllBare.of_eq z4⟩
    wrow_post
end Mine.Internal
end
theorem PySem.Challenge.cw_no0188_01_holds : PySem.Challenge.rw_no0188_01.Holds :=
  Mine.Internal.X0
