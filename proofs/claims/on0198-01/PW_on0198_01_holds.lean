import PyProof.Rows.All
import PyProof.ExcBaseAll.Exception
import PyProof.ExcClass3
import PyProof.ExcInit
import PyProof.InstStoreFacts
import KE.KItem
import Wide.FinOn
import OpenK.AllK
import Wide.All
import PySem.Challenge.RW_on0198_01
set_option Elab.async false
set_option maxHeartbeats 4000000
set_option genInjectivity false
set_option genSizeOf false
set_option genCtorIdx false
set_option bootstrap.genMatcherCode false
set_option compiler.extract_closed false
set_option linter.all false
section
set_option autoImplicit false
namespace Mine.Internal
theorem om0 {d k M N : Nat} (h : d + k < M) (e : Nat.ble M N = true) : d < N :=
  Nat.lt_of_lt_of_le (Nat.lt_of_le_of_lt (Nat.le_add_right d k) h) (Nat.le_of_ble_eq_true e)
theorem om1 {d k M N a : Nat} (h : d + k < M) (e : (Nat.ble a k && Nat.ble M N) = true) : d + a < N :=
  have e := (Bool.and_eq_true _ _).mp e
  Nat.lt_of_lt_of_le (Nat.lt_of_le_of_lt (Nat.add_le_add_left (Nat.le_of_ble_eq_true e.1) d) h) (Nat.le_of_ble_eq_true e.2)
theorem om2 {d k M N a b : Nat} (h : d + k < M) (e : (Nat.ble (a + b) k && Nat.ble M N) = true) : d + a + b < N := by
  rw [Nat.add_assoc]; exact om1 h e
theorem om3 {d k M N a b c : Nat} (h : d + k < M) (e : (Nat.ble (a + (b + c)) k && Nat.ble M N) = true) : d + a + b + c < N := by
  rw [Nat.add_assoc, Nat.add_assoc]; exact om1 h e
theorem om4 {a b c : Nat} (h : a ≤ b) (e : Nat.ble b c = true) : a ≤ c := Nat.le_trans h (Nat.le_of_ble_eq_true e)
theorem om5 {a b c k : Nat} (h : a ≤ b) (e : Nat.ble (k + b) c = true) : k + a ≤ c := Nat.le_trans (Nat.add_le_add_left h k) (Nat.le_of_ble_eq_true e)
theorem om6 {a b c k : Nat} (h : a ≤ b) (e : Nat.ble (b + k) c = true) : a + k ≤ c := Nat.le_trans (Nat.add_le_add_right h k) (Nat.le_of_ble_eq_true e)
theorem om7 {i p : Nat} : i + (p + 1) = i + 1 + p := by rw [Nat.add_right_comm]; rfl
theorem om9 {a i k : Nat} (h : a ≤ i) : a ≤ i + k := Nat.le_trans h (Nat.le_add_right _ _)
theorem om10 {a i k : Nat} (h : a + k ≤ i) : a ≤ i := Nat.le_trans (Nat.le_add_right _ _) h
theorem om11 {a i k : Nat} (h : a + k < i) : a < i := Nat.lt_of_le_of_lt (Nat.le_add_right _ _) h
theorem om14 {a b c m : Nat} (h : a ≤ b) (k : b < c) (l : c ≤ m) : a ≤ m := Nat.le_trans h (Nat.le_trans (Nat.le_of_lt k) l)
theorem om15 {i p : Nat} : i < i + p + 1 := Nat.lt_succ_of_le (Nat.le_add_right _ _)
theorem om16 {d M N : Nat} (h : d < M) (e : Nat.ble M N = true) : d < N := Nat.lt_of_lt_of_le h (Nat.le_of_ble_eq_true e)
theorem om17 {a b c d : Nat} (h : a ≤ b) (k : b ≤ c) (e : Nat.ble c d = true) : a ≤ d := Nat.le_trans h (om4 k e)
theorem om18 {a b c d : Nat} (h : a ≤ b) (k : b < c) (l : c ≤ d) {e : Nat} (f : Nat.ble d e = true) : a ≤ e := om4 (om14 h k l) f
theorem om22 {a b c : Nat} (k : b ≤ c) (h : a < b) : a < c := Nat.lt_of_lt_of_le h k
theorem om23 {a b c : Nat} (k : b ≤ c) (h : a ≤ b) : a ≤ c := Nat.le_trans h k
theorem om24 {a b c d : Nat} (l : c ≤ d) (k : b ≤ c) (h : a < b) : a < d := Nat.lt_of_lt_of_le h (Nat.le_trans k l)
theorem om25 {a b c d : Nat} (l : c ≤ d) (k : b ≤ c) (h : a ≤ b) : a ≤ d := Nat.le_trans h (Nat.le_trans k l)
theorem om19 {a i k : Nat} (h : a + (k + 1) ≤ i) : a + k < i := h
end Mine.Internal
end

section
open PySem
set_option autoImplicit false
namespace Mine.Internal

inductive V where
  | none | bool (b : Bool) | int (i : Int) | str (l : List Nat)
  | tup (vs : List V)
  | lst (vs : List V)          -- a list that nobody changes (the script)
  | rng (n : Int)
  | ref (n : Nat)              -- a made object
  | top (a : Nat)              -- a def, class, dict of the text's top, by its address

inductive O where
  | list (vs : List V)
  | inst (c : Nat) (fs : List (Nat × V))
  | cell (v : Option V)
  | clos (k : Nat) (cs : List (Nat × Nat))

set_option genCtorIdx true in
inductive Bop where | add | sub | mul | fdiv | mod | pow
set_option genCtorIdx true in
inductive Cop where | eq | ne | lt | le | gt | ge | is_ | isNot | in_ | notIn
set_option genCtorIdx true in
inductive Bi where | len | int | max | str | ord | abs | range | tuple
inductive Tg where | name (x : Nat) | cel (x : Nat) | tup (ts : List Tg)

inductive T where
  | none | bool (b : Bool) | int (i : Int) | str (l : List Nat)
  | var (x : Nat) | cell (x : Nat) | glob (x : Nat)
  | bin (o : Bop) (a b : T)
  | neg (a : T) | not (a : T)
  | and (as : List T) | or (as : List T)
  | ite (c a b : T)
  | cmp (o : Cop) (a b : T)
  | cmp2 (o₁ o₂ : Cop) (a b c : T)
  | tup (as : List T) | lst (as : List T)
  | idx (a i : T)
  | slice (a : T) (lo hi : Option T)
  | attr (a : T) (f : Nat)
  | call (f : T) (as : List T)
  | bi (b : Bi) (as : List T)
  | meth (o : T) (f : Nat) (as : List T)
  | comp (e : T) (t : Tg) (src : T) (cs : List T) (fv : List Nat)
  | repl (o : T) (c : Nat) (b : List Nat)

inductive S where
  | expr (e : T)
  | asg (t : Tg) (e : T)
  | asg2 (x y : Nat) (a b : T)     -- x, y = a, b
  | setAttr (o : T) (f : Nat) (e : T)
  | setIdx (o i e : T)
  | aug (x : Nat) (o : Bop) (e : T)
  | ret (e : Option T)
  | ife (c : T) (a b : List S)
  | while (c : T) (b : List S)
  | for (t : Tg) (src : T) (b : List S)
  | forZip (t : Tg) (a c : T) (b : List S)
  | raise (e : T)
  | try (e : T) (c : Nat) (b : Bool)     -- e, and if c is raised: return b
  | defn (x : Nat) (k : Nat)
  | junk

noncomputable def V.ctorIdx (x : V) : Nat := @V.casesOn (fun zz => Nat) x 0 (fun zz => 1) (fun zz => 2) (fun zz => 3) (fun zz => 4) (fun zz => 5) (fun zz => 6) (fun zz => 7) (fun zz => 8)
noncomputable def O.ctorIdx (x : O) : Nat := @O.casesOn (fun zz => Nat) x (fun zz => 0) (fun zz zz => 1) (fun zz => 2) (fun zz zz => 3)
noncomputable def Tg.ctorIdx (x : Tg) : Nat := @Tg.casesOn (fun zz => Nat) x (fun zz => 0) (fun zz => 1) (fun zz => 2)
noncomputable def T.ctorIdx (x : T) : Nat := @T.casesOn (fun zz => Nat) x 0 (fun zz => 1) (fun zz => 2) (fun zz => 3) (fun zz => 4) (fun zz => 5) (fun zz => 6) (fun zz zz zz => 7) (fun zz => 8) (fun zz => 9) (fun zz => 10) (fun zz => 11) (fun zz zz zz => 12) (fun zz zz zz => 13) (fun zz zz zz zz zz => 14) (fun zz => 15) (fun zz => 16) (fun zz zz => 17) (fun zz zz zz => 18) (fun zz zz => 19) (fun zz zz => 20) (fun zz zz => 21) (fun zz zz zz => 22) (fun zz zz zz zz zz => 23) (fun zz zz zz => 24)
noncomputable def S.ctorIdx (x : S) : Nat := @S.casesOn (fun zz => Nat) x (fun zz => 0) (fun zz zz => 1) (fun zz zz zz zz => 2) (fun zz zz zz => 3) (fun zz zz zz => 4) (fun zz zz zz => 5) (fun zz => 6) (fun zz zz zz => 7) (fun zz zz => 8) (fun zz zz zz => 9) (fun zz zz zz zz => 10) (fun zz => 11) (fun zz zz zz => 12) (fun zz zz => 13) 14

structure FI where
  params : List Tg
  dflts : List V
  cells : List Nat     -- names of the frame that are cells
  body : List S
end Mine.Internal
end

section
open PySem
set_option autoImplicit false
namespace Mine.Internal
noncomputable def nm : List Str := [Str.ofString "__name__", Str.ofString "MarkupError", Str.ofString "Exception", Str.ofString "__init__", Str.ofString "self", Str.ofString "message", Str.ofString "PathFault", Str.ofString "SheetFault", Str.ofString "common_divisor", Str.ofString "one", Str.ofString "other", Str.ofString "first", Str.ofString "second", Str.ofString "abs", Str.ofString "sign_of", Str.ofString "number", Str.ofString "number_of", Str.ofString "top", Str.ofString "bottom", Str.ofString "common", Str.ofString "rows_of", Str.ofString "parts", Str.ofString "tuple", Str.ofString "part", Str.ofString "row", Str.ofString "Literal", Str.ofString "value", Str.ofString "NumberNode", Str.ofString "VariableNode", Str.ofString "name", Str.ofString "Call", Str.ofString "arguments", Str.ofString "Binary", Str.ofString "op", Str.ofString "left", Str.ofString "right", Str.ofString "Negated", Str.ofString "Filter", Str.ofString "base", Str.ofString "predicates", Str.ofString "Path", Str.ofString "start", Str.ofString "steps", Str.ofString "Step", Str.ofString "axis", Str.ofString "test", Str.ofString "SPACES", Str.ofString "START_RANGES", Str.ofString "MORE_RANGES", Str.ofString "FIRST_BEYOND", Str.ofString "is_in_ranges", Str.ofString "code", Str.ofString "ranges", Str.ofString "low", Str.ofString "high", Str.ofString "is_space", Str.ofString "sign", Str.ofString "is_small_letter", Str.ofString "is_name_start", Str.ofString "ord", Str.ofString "is_name_char", Str.ofString "FIGURES", Str.ofString "PAIRS", Str.ofString "OPERATORS", Str.ofString "SIGNS", Str.ofString "WORD_OPERATORS", Str.ofString "KINDS_OF_NODES", Str.ofString "BEHIND_NO_OPERAND", Str.ofString "Word", Str.ofString "kind", Str.ofString "text", Str.ofString "place", Str.ofString "is_sign", Str.ofString "is_operator", Str.ofString "PathScanner", Str.ofString "at", Str.ofString "found", Str.ofString "ahead", Str.ofString "len", Str.ofString "add", Str.ofString "begin", Str.ofString "append", Str.ofString "run", Str.ofString "skip", Str.ofString "step", Str.ofString "is_behind_operand", Str.ofString "word", Str.ofString "literal", Str.ofString "variable", Str.ofString "mark", Str.ofString "figures", Str.ofString "quote", Str.ofString "end", Str.ofString "find", Str.ofString "str", Str.ofString "qualified", Str.ofString "endswith", Str.ofString "plain_name", Str.ofString "behind", Str.ofString "path_words", Str.ofString "MOST_DEPTH", Str.ofString "AXES", Str.ofString "LEVELS", Str.ofString "PRIMARY_KINDS", Str.ofString "any_step", Str.ofString "name_test", Str.ofString "prefix", Str.ofString "colon", Str.ofString "local", Str.ofString "rpartition", Str.ofString "number_value", Str.ofString "whole", Str.ofString "point", Str.ofString "partition", Str.ofString "int", Str.ofString "PathReader", Str.ofString "words", Str.ofString "depth", Str.ofString "here", Str.ofString "go", Str.ofString "refuse", Str.ofString "need", Str.ofString "expression", Str.ofString "least", Str.ofString "negated", Str.ofString "level", Str.ofString "many", Str.ofString "counted", Str.ofString "get", Str.ofString "union", Str.ofString "turn", Str.ofString "range", Str.ofString "path", Str.ofString "is_step", Str.ofString "from_primary", Str.ofString "primary", Str.ofString "one_step", Str.ofString "target", Str.ofString "parse_path", Str.ofString "expression_end", Str.ofString "split_avt", Str.ofString "plain", Str.ofString "filled", Str.ofString "tell", Str.ofString "told", Str.ofString "join", Str.ofString "read_avt", Str.ofString "_law_pool", Str.ofString "script", Str.ofString "k", Str.ofString "cell", Str.ofString "big", Str.ofString "max", Str.ofString "mixed", Str.ofString "_law_take", Str.ofString "source", Str.ofString "drawn", Str.ofString "_law_one", Str.ofString "things", Str.ofString "_law_literal", Str.ofString "_law_expression", Str.ofString "way", Str.ofString "_law_parts", Str.ofString "replace", Str.ofString "written", Str.ofString "_law_due", Str.ofString "some", Str.ofString "due", Str.ofString "_law_refused", Str.ofString "_law_wrong_right", Str.ofString "wrong", Str.ofString "fixed", Str.ofString "law", Str.ofString "asked", Str.ofString "shown", Str.ofString "made", Str.ofString "kinds", Str.ofString "trees", Str.ofString "expr", Str.ofString "zip", Str.ofString "strip"]
noncomputable def idOf (x : Str) : Option Nat := nm.findIdx? fun y => y.cps.toList == x.cps.toList


noncomputable def bopOf : Operator → Option Bop
  | .Add => some .add | .Sub => some .sub | .Mult => some .mul | .FloorDiv => some .fdiv | .Mod => some .mod | .Pow => some .pow
  | _ => none
noncomputable def copOf : CmpOp → Cop
  | .Eq => .eq | .NotEq => .ne | .Lt => .lt | .LtE => .le | .Gt => .gt | .GtE => .ge | .Is => .is_ | .IsNot => .isNot | .In => .in_ | .NotIn => .notIn
noncomputable def biName : Bi → Str
  | .len => "len" | .int => "int" | .max => "max" | .str => "str" | .ord => "ord" | .abs => "abs" | .range => "range" | .tuple => "tuple"
noncomputable def biOf (s : Str) : Option Bi := [Bi.len, .int, .max, .str, .ord, .abs, .range, .tuple].find? fun b => (biName b).cps.toList == s.cps.toList

noncomputable abbrev Kd := Str → Option NameKind
noncomputable def kdOf (sc : Scope) : Kd := fun x => sc.names.lookup x
noncomputable def kdIn (sc : Scope) (kd : Kd) : Kd := fun x => (sc.names.map fun (n, k) => if k == .free && kd n == some .cell then (n, .cell) else (n, k)).lookup x
noncomputable def compOk (sc : Scope) (kd : Kd) : Bool := sc.kind == .function && !sc.isGenerator && !sc.isCoroutine && sc.names.all (fun y => y.2 != .cell) && sc.names.all (fun y => y.2 != .local || sc.names.lookup y.1 == some .local) &&
  sc.names.all (fun y => y.2 != .free || kd y.1 == some .cell)

noncomputable def freesB : List (Str × NameKind) → List Nat → Bool
  | [], [] => true
  | [], _ :: _ => false
  | (x, k) :: r, cs => if k == .free then (match cs with | c :: cs' => nm[c]? == some x && freesB r cs' | [] => false) else freesB r cs
noncomputable def isCall0 (o : Expr) : Bool := Expr.casesOn (motive_1 := fun zz => Bool) o (fun zz zz zz => false) (fun zz zz zz => false) (fun zz zz zz zz => false) (fun zz zz zz => false) (fun zz zz zz zz => false) (fun zz zz zz zz => false) (fun zz zz zz => false) (fun zz zz zz => false) (fun zz zz zz zz => false) (fun zz zz zz zz => false) (fun zz zz zz zz zz => false)
  (fun zz zz zz zz => false) (fun zz zz => false) (fun zz zz => false) (fun zz zz => false) (fun zz zz zz zz => false) (fun f as ks zz => Nat.beq f.ctorIdx 23 && (as.isEmpty && ks.isEmpty)) (fun zz zz zz zz => false) (fun zz zz => false) (fun zz zz zz => false) (fun zz zz zz => false) (fun zz zz zz => false) (fun zz zz => false) (fun zz zz => false) (fun zz zz => false) (fun zz zz zz => false) (fun zz zz zz zz => false)
noncomputable def isSlice (e : Expr) : Bool := Nat.beq e.ctorIdx 26

mutual
noncomputable def TrTg (kd : Kd) (e : Expr) (t : Tg) : Prop := match t with
  | .name i => ∃ x p, e = .Name x p ∧ nm[i]? = some x ∧ kd x = some .local
  | .cel i => ∃ x p, e = .Name x p ∧ nm[i]? = some x ∧ kd x = some .cell
  | .tup ts => ∃ es k p, e = .Tuple es k p ∧ TrTgs kd es ts
noncomputable def TrTgs (kd : Kd) (es : List Expr) (ts : List Tg) : Prop := match ts with
  | [] => es = []
  | t :: ts => ∃ e r, es = e :: r ∧ TrTg kd e t ∧ TrTgs kd r ts
end
noncomputable def isTst : T → Bool
  | .not _ | .and _ | .or _ | .ite _ _ _ | .cmp _ _ _ | .cmp2 _ _ _ _ _ => true
  | _ => false
structure Plain (e : Expr) (b : Bool) : Prop where
  star : ∀ rest env, starEach (e :: rest) env = (false, eval e env) :: starEach rest env
  inMarks : ∀ o, behindInMarks o e = false
  folded : ∀ env x, foldedSetIterable e env x = pure x
  test : b = false → ∀ env whole, isTrue e env whole = (do let v ← whole; standAt e.pos; holding [v] (PySem.truthy v))
mutual
noncomputable def TrE (kd : Kd) (e : Expr) (t : T) : Prop := Plain e (isTst t) ∧ match t with
  | .none => ∃ k p, e = .Constant .none k p
  | .bool b => ∃ k p, e = .Constant (.bool b) k p
  | .int i => ∃ k p, e = .Constant (.int i) k p
  | .str l => ∃ s k p, e = .Constant (.str s) k p ∧ l = s.cps.toList
  | .var i => ∃ x p, e = .Name x p ∧ nm[i]? = some x ∧ kd x = some .local
  | .cell i => ∃ x p, e = .Name x p ∧ nm[i]? = some x ∧ (kd x = some .cell ∨ kd x = some .free)
  | .glob i => ∃ x p, e = .Name x p ∧ nm[i]? = some x ∧ kd x = some .globalImplicit
  | .bin o' a' b' => ∃ a o b p, e = .BinOp a o b p ∧ bopOf o = some o' ∧ TrE kd a a' ∧ TrE kd b b'
  | .neg a' => ∃ a p, e = .UnaryOp .USub a p ∧ TrE kd a a'
  | .not a' => ∃ a p, e = .UnaryOp .Not a p ∧ TrE kd a a'
  | .and ts => ∃ es p, e = .BoolOp .And es p ∧ TrEs kd es ts
  | .or ts => ∃ es p, e = .BoolOp .Or es p ∧ TrEs kd es ts
  | .ite c' a' b' => ∃ c a b p, e = .IfExp c a b p ∧ TrE kd c c' ∧ TrE kd a a' ∧ TrE kd b b'
  | .cmp o' a' b' => ∃ a o b p, e = .Compare a [o] [b] p ∧ o' = copOf o ∧ TrE kd a a' ∧ TrE kd b b'
  | .cmp2 o' q' a' b' d' => ∃ a o q b d p, e = .Compare a [o, q] [b, d] p ∧ o' = copOf o ∧ q' = copOf q ∧ TrE kd a a' ∧ TrE kd b b' ∧ TrE kd d d'
  | .tup ts => ∃ es k p, e = .Tuple es k p ∧ TrEs kd es ts ∧ es.length < 20
  | .lst ts => ∃ es p, e = .List es p ∧ TrEs kd es ts ∧ es.length < 20
  | .slice a' lo' hi' => ∃ a lo hi q p, e = .Subscript a (.Slice lo hi none q) p ∧ TrE kd a a' ∧ TrO kd lo lo' ∧ TrO kd hi hi'
  | .idx a' i' => ∃ a i p, e = .Subscript a i p ∧ isSlice i = false ∧ TrE kd a a' ∧ TrE kd i i'
  | .attr a' i => ∃ a f p, e = .Attribute a f p ∧ isCall0 a = false ∧ nm[i]? = some f ∧ TrE kd a a'
  | .meth o' i ts => ∃ o f es q p, e = .Call (.Attribute o f q) es [] p ∧ isCall0 o = false ∧ (q.endLine == p.line) = true ∧ nm[i]? = some f ∧ TrE kd o o' ∧ TrEs kd es ts ∧ es.length < 20
  | .bi b ts => ∃ x q es p, e = .Call (.Name x q) es [] p ∧ kd x = some .globalImplicit ∧ x = biName b ∧ TrEs kd es ts ∧ es.length < 20
  | .call g' ts => ∃ x q es p, e = .Call (.Name x q) es [] p ∧ TrE kd (.Name x q) g' ∧ TrEs kd es ts ∧ es.length < 20
  | .comp e' t' it' cs' fv => ∃ a t it cs sc p, e = .ListComp a [⟨t, it, cs, 0⟩] sc p ∧ compOk sc kd = true ∧ freesB sc.names fv = true ∧ TrTg (kdIn sc kd) t t' ∧ TrE kd it it' ∧ TrE (kdIn sc kd) a e' ∧ TrEs (kdIn sc kd) cs cs'
  | .repl o' c l => ∃ o q x k₁ p₁ y k₂ p₂ p, e = .Call (.Attribute o ("replace" : Str) q) [.Constant (.str x) k₁ p₁, .Constant (.str y) k₂ p₂] [] p ∧ isCall0 o = false ∧ (q.endLine == p.line) = true ∧ TrE kd o o' ∧ x.cps.toList = [c] ∧ l = y.cps.toList
noncomputable def TrEs (kd : Kd) (es : List Expr) (ts : List T) : Prop := match ts with
  | [] => es = []
  | t :: ts => ∃ e r, es = e :: r ∧ TrE kd e t ∧ TrEs kd r ts
noncomputable def TrO (kd : Kd) (e : Option Expr) (t : Option T) : Prop := match t with
  | none => e = none
  | some t => ∃ a, e = some a ∧ TrE kd a t
end
theorem TrEs.nil {kd : Kd} : TrEs kd [] [] := rfl
theorem TrEs.cons {kd : Kd} {e : Expr} {es : List Expr} {t : T} {ts : List T} (h : TrE kd e t) (hs : TrEs kd es ts) : TrEs kd (e :: es) (t :: ts) := ⟨_, _, rfl, h, hs⟩
section
variable {kd : Kd} {a b c d o e : Expr} {p q r : Pos} {a' b' c' d' o' e' : T} {es : List Expr} {ts : List T} {i k : Nat} {x : Str}
theorem TrE.none : TrE kd (.Constant .none k p) .none := ⟨⟨fun zz zz => rfl, fun zz => rfl, fun zz zz => rfl, fun zz zz zz => rfl⟩, _, _, rfl⟩
theorem TrE.bool {b : Bool} : TrE kd (.Constant (.bool b) k p) (.bool b) := ⟨⟨fun zz zz => rfl, fun zz => rfl, fun zz zz => rfl, fun zz zz zz => rfl⟩, _, _, rfl⟩
theorem TrE.int {i : Int} : TrE kd (.Constant (.int i) k p) (.int i) := ⟨⟨fun zz zz => rfl, fun zz => rfl, fun zz zz => rfl, fun zz zz zz => rfl⟩, _, _, rfl⟩
theorem TrE.str {s : Str} : TrE kd (.Constant (.str s) k p) (.str s.cps.toList) := ⟨⟨fun zz zz => rfl, fun zz => rfl, fun zz zz => rfl, fun zz zz zz => rfl⟩, _, _, _, rfl, rfl⟩
theorem TrE.var (h : nm[i]? = some x) (k : kd x = some .local) : TrE kd (.Name x p) (.var i) := ⟨⟨fun zz zz => rfl, fun zz => rfl, fun zz zz => rfl, fun zz zz zz => rfl⟩, _, _, rfl, h, k⟩
theorem TrE.cell (h : nm[i]? = some x) (k : kd x = some .cell ∨ kd x = some .free) : TrE kd (.Name x p) (.cell i) := ⟨⟨fun zz zz => rfl, fun zz => rfl, fun zz zz => rfl, fun zz zz zz => rfl⟩, _, _, rfl, h, k⟩
theorem TrE.glob (h : nm[i]? = some x) (k : kd x = some .globalImplicit) : TrE kd (.Name x p) (.glob i) := ⟨⟨fun zz zz => rfl, fun zz => rfl, fun zz zz => rfl, fun zz zz zz => rfl⟩, _, _, rfl, h, k⟩
theorem TrE.bin {o : Operator} {o' : Bop} (h : bopOf o = some o') (ha : TrE kd a a') (hb : TrE kd b b') : TrE kd (.BinOp a o b p) (.bin o' a' b') := ⟨⟨fun zz zz => rfl, fun zz => rfl, fun zz zz => rfl, fun zz zz zz => rfl⟩, _, _, _, _, rfl, h, ha, hb⟩
theorem TrE.neg (ha : TrE kd a a') : TrE kd (.UnaryOp .USub a p) (.neg a') := ⟨⟨fun zz zz => rfl, fun zz => rfl, fun zz zz => rfl, fun zz zz zz => rfl⟩, _, _, rfl, ha⟩
theorem TrE.not (ha : TrE kd a a') : TrE kd (.UnaryOp .Not a p) (.not a') := ⟨⟨fun zz zz => rfl, fun zz => rfl, fun zz zz => rfl, fun h => Bool.noConfusion h⟩, _, _, rfl, ha⟩
theorem TrE.and (h : TrEs kd es ts) : TrE kd (.BoolOp .And es p) (.and ts) := ⟨⟨fun zz zz => rfl, fun zz => rfl, fun zz zz => rfl, fun h => Bool.noConfusion h⟩, _, _, rfl, h⟩
theorem TrE.or (h : TrEs kd es ts) : TrE kd (.BoolOp .Or es p) (.or ts) := ⟨⟨fun zz zz => rfl, fun zz => rfl, fun zz zz => rfl, fun h => Bool.noConfusion h⟩, _, _, rfl, h⟩
theorem TrE.ite (hc : TrE kd c c') (ha : TrE kd a a') (hb : TrE kd b b') : TrE kd (.IfExp c a b p) (.ite c' a' b') := ⟨⟨fun zz zz => rfl, fun zz => rfl, fun zz zz => rfl, fun h => Bool.noConfusion h⟩, _, _, _, _, rfl, hc, ha, hb⟩
theorem TrE.cmp {o : CmpOp} (ha : TrE kd a a') (hb : TrE kd b b') : TrE kd (.Compare a [o] [b] p) (.cmp (copOf o) a' b') := ⟨⟨fun zz zz => rfl, fun zz => rfl, fun zz zz => rfl, fun h => Bool.noConfusion h⟩, _, _, _, _, rfl, rfl, ha, hb⟩
theorem TrE.cmp2 {o q : CmpOp} (ha : TrE kd a a') (hb : TrE kd b b') (hd : TrE kd d d') : TrE kd (.Compare a [o, q] [b, d] p) (.cmp2 (copOf o) (copOf q) a' b' d') := ⟨⟨fun zz zz => rfl, fun zz => rfl, fun zz zz => rfl, fun h => Bool.noConfusion h⟩, _, _, _, _, _, _, rfl, rfl, rfl, ha, hb, hd⟩
theorem TrE.tup (h : TrEs kd es ts) (l : es.length < 20) : TrE kd (.Tuple es k p) (.tup ts) := ⟨⟨fun zz zz => rfl, fun zz => rfl, fun zz zz => rfl, fun zz zz zz => rfl⟩, _, _, _, rfl, h, l⟩
theorem TrE.lst (h : TrEs kd es ts) (l : es.length < 20) : TrE kd (.List es p) (.lst ts) := ⟨⟨fun zz zz => rfl, fun zz => rfl, fun zz zz => rfl, fun zz zz zz => rfl⟩, _, _, rfl, h, l⟩
theorem TrE.slice {lo hi : Option Expr} {lo' hi' : Option T} (ha : TrE kd a a') (hl : TrO kd lo lo') (hh : TrO kd hi hi') : TrE kd (.Subscript a (.Slice lo hi Option.none q) p) (.slice a' lo' hi') := ⟨⟨fun zz zz => rfl, fun zz => rfl, fun zz zz => rfl, fun zz zz zz => rfl⟩, _, _, _, _, _, rfl, ha, hl, hh⟩
theorem TrE.idx (h : isSlice b = false) (ha : TrE kd a a') (hb : TrE kd b b') : TrE kd (.Subscript a b p) (.idx a' b') := ⟨⟨fun zz zz => rfl, fun zz => rfl, fun zz zz => rfl, fun zz zz zz => rfl⟩, _, _, _, rfl, h, ha, hb⟩
theorem TrE.attr (h : isCall0 a = false) (hx : nm[i]? = some x) (ha : TrE kd a a') : TrE kd (.Attribute a x p) (.attr a' i) := ⟨⟨fun zz zz => rfl, fun zz => rfl, fun zz zz => rfl, fun zz zz zz => rfl⟩, _, _, _, rfl, h, hx, ha⟩
theorem TrE.meth (h : isCall0 o = false) (hp : (q.endLine == p.line) = true) (hx : nm[i]? = some x) (ho : TrE kd o o') (hs : TrEs kd es ts) (l : es.length < 20) : TrE kd (.Call (.Attribute o x q) es [] p) (.meth o' i ts) := ⟨⟨fun zz zz => rfl, fun zz => rfl, fun zz zz => rfl, fun zz zz zz => rfl⟩, _, _, _, _, _, rfl, h, hp, hx, ho, hs, l⟩
theorem TrE.bi {b : Bi} (k : kd x = some .globalImplicit) (hx : x = biName b) (hs : TrEs kd es ts) (l : es.length < 20) : TrE kd (.Call (.Name x q) es [] p) (.bi b ts) := ⟨⟨fun zz zz => rfl, fun zz => rfl, fun zz zz => rfl, fun zz zz zz => rfl⟩, _, _, _, _, rfl, k, hx, hs, l⟩
theorem TrE.call (h : TrE kd (.Name x q) a') (hs : TrEs kd es ts) (l : es.length < 20) : TrE kd (.Call (.Name x q) es [] p) (.call a' ts) := ⟨⟨fun zz zz => rfl, fun zz => rfl, fun zz zz => rfl, fun zz zz zz => rfl⟩, _, _, _, _, rfl, h, hs, l⟩
theorem TrE.comp {t : Expr} {t' : Tg} {sc : Scope} {fv : List Nat} (h : compOk sc kd = true) (hf : freesB sc.names fv = true) (ht : TrTg (kdIn sc kd) t t') (hb : TrE kd b b') (ha : TrE (kdIn sc kd) a a') (hs : TrEs (kdIn sc kd) es ts) :
    TrE kd (.ListComp a [⟨t, b, es, 0⟩] sc p) (.comp a' t' b' ts fv) := ⟨⟨fun zz zz => rfl, fun zz => rfl, fun zz zz => rfl, fun zz zz zz => rfl⟩, _, _, _, _, _, _, rfl, h, hf, ht, hb, ha, hs⟩
theorem TrE.repl {f y : Str} {c k₁ k₂ : Nat} {p₁ p₂ : Pos} (hf : f = ("replace" : Str)) (h : isCall0 o = false ∧ (q.endLine == p.line) = true) (ho : TrE kd o o') (hx : x.cps.toList = [c]) : TrE kd (.Call (.Attribute o f q) [.Constant (.str x) k₁ p₁, .Constant (.str y) k₂ p₂] [] p) (.repl o' c y.cps.toList) := by
  subst hf; exact ⟨⟨fun zz zz => rfl, fun zz => rfl, fun zz zz => rfl, fun zz zz zz => rfl⟩, _, _, _, _, _, _, _, _, _, rfl, h.1, h.2, ho, hx, rfl⟩
end

noncomputable def idC (x : Str) : Option {i : Nat // nm[i]? = some x} := match idOf x with
  | some i => if h : nm[i]? = some x then some ⟨i, h⟩ else none
  | none => none
structure TrR where
  tg : (kd : Kd) → (e : Expr) → Option {t : Tg // TrTg kd e t}
  tgs : (kd : Kd) → (es : List Expr) → Option {ts : List Tg // TrTgs kd es ts}
  e : (kd : Kd) → (e : Expr) → Option {t : T // TrE kd e t}
  es : (kd : Kd) → (es : List Expr) → Option {ts : List T // TrEs kd es ts}
  o : (kd : Kd) → (e : Option Expr) → Option {t : Option T // TrO kd e t}
noncomputable def trTgF (r : TrR) (kd : Kd) (e : Expr) : Option {t : Tg // TrTg kd e t} := match e with
    | .Name x _ => (idC x).bind fun i => if h : kd x = some .local then some ⟨.name i.1, ⟨_, _, rfl, i.2, h⟩⟩ else if h : kd x = some .cell then some ⟨.cel i.1, ⟨_, _, rfl, i.2, h⟩⟩ else none
    | .Tuple es _ _ => (r.tgs kd es).map fun ts => ⟨.tup ts.1, ⟨_, _, _, rfl, ts.2⟩⟩
    | _ => none
noncomputable def trTgsF (r : TrR) (kd : Kd) (es : List Expr) : Option {ts : List Tg // TrTgs kd es ts} := match es with
    | [] => some ⟨[], rfl⟩
    | e :: es => (r.tg kd e).bind fun t => (r.tgs kd es).map fun ts => ⟨t.1 :: ts.1, ⟨_, _, rfl, t.2, ts.2⟩⟩

noncomputable def trEF (r : TrR) (kd : Kd) (e : Expr) : Option {t : T // TrE kd e t} := match e with
    | .Constant .none _ _ => some ⟨.none, .none⟩
    | .Constant (.bool b) _ _ => some ⟨.bool b, .bool⟩
    | .Constant (.int i) _ _ => some ⟨.int i, .int⟩
    | .Constant (.str s) _ _ => some ⟨.str s.cps.toList, .str⟩
    | .Name x _ => (idC x).bind fun i =>
        if h : kd x = some .local then some ⟨.var i.1, .var i.2 h⟩
        else if h : kd x = some .cell ∨ kd x = some .free then some ⟨.cell i.1, .cell i.2 h⟩
        else if h : kd x = some .globalImplicit then some ⟨.glob i.1, .glob i.2 h⟩ else none
    | .BinOp a o b _ => match h : bopOf o with
      | some o' => (r.e kd a).bind fun a => (r.e kd b).map fun b => ⟨.bin o' a.1 b.1, .bin h a.2 b.2⟩
      | none => none
    | .UnaryOp .USub a _ => (r.e kd a).map fun a => ⟨.neg a.1, .neg a.2⟩
    | .UnaryOp .Not a _ => (r.e kd a).map fun a => ⟨.not a.1, .not a.2⟩
    | .BoolOp .And vs _ => (r.es kd vs).map fun ts => ⟨.and ts.1, .and ts.2⟩
    | .BoolOp .Or vs _ => (r.es kd vs).map fun ts => ⟨.or ts.1, .or ts.2⟩
    | .IfExp c a b _ => (r.e kd c).bind fun c => (r.e kd a).bind fun a => (r.e kd b).map fun b => ⟨.ite c.1 a.1 b.1, .ite c.2 a.2 b.2⟩
    | .Compare a [o] [b] _ => (r.e kd a).bind fun a => (r.e kd b).map fun b => ⟨.cmp (copOf o) a.1 b.1, .cmp a.2 b.2⟩
    | .Compare a [o₁, o₂] [b, c] _ => (r.e kd a).bind fun a => (r.e kd b).bind fun b => (r.e kd c).map fun c => ⟨.cmp2 (copOf o₁) (copOf o₂) a.1 b.1 c.1, .cmp2 a.2 b.2 c.2⟩
    | .Tuple es _ _ => if hl : es.length < 20 then (r.es kd es).map fun ts => ⟨.tup ts.1, .tup ts.2 hl⟩ else none
    | .List es _ => if hl : es.length < 20 then (r.es kd es).map fun ts => ⟨.lst ts.1, .lst ts.2 hl⟩ else none
    | .Subscript a (.Slice lo hi none _) _ => (r.e kd a).bind fun a => (r.o kd lo).bind fun lo => (r.o kd hi).map fun hi => ⟨.slice a.1 lo.1 hi.1, .slice a.2 lo.2 hi.2⟩
    | .Subscript a i _ => if h : isSlice i = false then (r.e kd a).bind fun a => (r.e kd i).map fun i => ⟨.idx a.1 i.1, .idx h a.2 i.2⟩ else none
    | .Attribute a f _ => if h : isCall0 a = false then (idC f).bind fun f => (r.e kd a).map fun a => ⟨.attr a.1 f.1, .attr h f.2 a.2⟩ else none
    | .Call (.Attribute o f q) [.Constant (.str x) k₁ p₁, .Constant (.str y) k₂ p₂] [] p => if hf : f = ("replace" : Str) then (if hl : isCall0 o = false ∧ (q.endLine == p.line) = true then (r.e kd o).bind fun o' => (match hx : x.cps.toList with
        | [c] => some ⟨.repl o'.1 c y.cps.toList, .repl hf hl o'.2 hx⟩
        | _ => none) else none) else
      (if hl : isCall0 o = false ∧ (q.endLine == p.line) = true then (idC f).bind fun f => (r.e kd o).map fun o => ⟨.meth o.1 f.1 [.str x.cps.toList, .str y.cps.toList], .meth hl.1 hl.2 f.2 o.2 (.cons .str (.cons .str .nil)) (Nat.le_of_ble_eq_true rfl)⟩ else none)
    | .Call (.Attribute o f q) as [] p => if hl : as.length < 20 ∧ isCall0 o = false ∧ (q.endLine == p.line) = true then (idC f).bind fun f => (r.e kd o).bind fun o => (r.es kd as).map fun as => ⟨.meth o.1 f.1 as.1, .meth hl.2.1 hl.2.2 f.2 o.2 as.2 hl.1⟩ else none
    | .Call (.Name x p) as [] _ => if hl : as.length < 20 then match (if kd x = some .globalImplicit then biOf x else none) with
      | some b => if h : kd x = some .globalImplicit ∧ x = biName b then (r.es kd as).map fun as => ⟨.bi b as.1, .bi h.1 h.2 as.2 hl⟩ else none
      | none => (r.e kd (.Name x p)).bind fun f => (r.es kd as).map fun as => ⟨.call f.1 as.1, .call f.2 as.2 hl⟩
      else none
    | .ListComp e [⟨t, it, cs, 0⟩] sc _ => ((sc.names.filter fun x => x.2 == .free).mapM fun x => idOf x.1).bind fun fv => if h : compOk sc kd = true ∧ freesB sc.names fv = true then (r.tg (kdIn sc kd) t).bind fun t => (r.e kd it).bind fun it => (r.e (kdIn sc kd) e).bind fun e => (r.es (kdIn sc kd) cs).map fun cs =>
        ⟨.comp e.1 t.1 it.1 cs.1 fv, .comp h.1 h.2 t.2 it.2 e.2 cs.2⟩ else none
    | _ => none
noncomputable def trEsF (r : TrR) (kd : Kd) (es : List Expr) : Option {ts : List T // TrEs kd es ts} := match es with
    | [] => some ⟨[], rfl⟩
    | e :: es => (r.e kd e).bind fun t => (r.es kd es).map fun ts => ⟨t.1 :: ts.1, .cons t.2 ts.2⟩
noncomputable def trOF (r : TrR) (kd : Kd) (e : Option Expr) : Option {t : Option T // TrO kd e t} := match e with
    | none => some ⟨none, rfl⟩
    | some e => (r.e kd e).map fun t => ⟨some t.1, ⟨_, rfl, t.2⟩⟩

noncomputable def trR (n : Nat) : TrR := Nat.rec ⟨fun zz zz => none, fun zz zz => none, fun zz zz => none, fun zz zz => none, fun zz zz => none⟩ (fun zz r => ⟨trTgF r, trTgsF r, trEF r, trEsF r, trOF r⟩) n

noncomputable def swaps2 (kd : Kd) (x y : Str) (px py : Pos) (a b : Expr) : Bool :=
  kd x == some .local && kd y == some .local && px.line == py.line && x != y && ![a, b].all (foldedForSure 8) && ![a, b].all (constantsAlone 8) &&
  !([a, b].any fun | .Starred .. => true | _ => false)
noncomputable def swapsC (kd : Kd) (x : Str) (px : Pos) (value : Expr) (sc : Scope) : Bool :=
  kd x == some .local && px.line == value.pos.line && !(sc.names.any fun (n, k) => n == x && (k == .local || k == .cell))
noncomputable def isComp (e : Expr) : Bool := Nat.ble 8 e.ctorIdx && Nat.ble e.ctorIdx 10
noncomputable def isTupE (e : Expr) : Bool := Nat.beq e.ctorIdx 25
noncomputable def isName (e : Expr) : Bool := Nat.beq e.ctorIdx 23

noncomputable def isCompT : T → Bool
  | .comp _ _ _ _ _ => true
  | _ => false
mutual
noncomputable def TrS (kd : Kd) (st : Stmt) (s : S) : Prop := match s with
  | .expr e' => ∃ e p, st = .Expr e p ∧ isComp e = false ∧ TrE kd e e'
  | .asg t' e' => (∃ t e p, st = .Assign [t] e p ∧ isComp e = false ∧ (isTupE e = false ∨ isName t = true) ∧ TrTg kd t t' ∧ TrE kd e e') ∨
      ∃ x q e gs sc q' p i, st = .Assign [.Name x q] (.ListComp e gs sc q') p ∧ t' = .name i ∧ isCompT e' = true ∧ nm[i]? = some x ∧ swapsC kd x q (.ListComp e gs sc q') sc = true ∧ TrE kd (.ListComp e gs sc q') e'
  | .asg2 i j a' b' => ∃ x y px py k₁ q₁ a b k₂ q₂ p, st = .Assign [.Tuple [.Name x px, .Name y py] k₁ q₁] (.Tuple [a, b] k₂ q₂) p ∧ nm[i]? = some x ∧ nm[j]? = some y ∧ swaps2 kd x y px py a b = true ∧ TrE kd a a' ∧ TrE kd b b'
  | .setAttr o' i e' => ∃ o f q e p, st = .Assign [.Attribute o f q] e p ∧ isComp e = false ∧ nm[i]? = some f ∧ TrE kd o o' ∧ TrE kd e e'
  | .setIdx o' i' e' => ∃ o i q e p, st = .Assign [.Subscript o i q] e p ∧ isComp e = false ∧ TrE kd o o' ∧ TrE kd i i' ∧ TrE kd e e'
  | .aug i o' e' => ∃ x q o e p, st = .AugAssign (.Name x q) o e p ∧ nm[i]? = some x ∧ kd x = some .local ∧ bopOf o = some o' ∧ TrE kd e e'
  | .ret e' => (∃ p, st = .Return none p ∧ e' = none) ∨ ∃ e p a, st = .Return (some e) p ∧ e' = some a ∧ TrE kd e a
  | .ife c' a' b' => ∃ c a b p, st = .If c a b p ∧ TrE kd c c' ∧ TrSs kd a a' ∧ TrSs kd b b'
  | .while c' b' => ∃ c b p, st = .While c b [] p ∧ TrE kd c c' ∧ TrSs kd b b'
  | .for t' e' b' => ∃ t e b p, st = .For t e b [] p ∧ TrTg kd t t' ∧ TrE kd e e' ∧ TrSs kd b b'
  | .forZip t' a' c' b' => ∃ t x q₁ a c q₂ b p, st = .For t (.Call (.Name x q₁) [a, c] [] q₂) b [] p ∧ kd x = some .globalImplicit ∧ x = ("zip" : Str) ∧ isTupE t = true ∧ TrTg kd t t' ∧ TrE kd a a' ∧ TrE kd c c' ∧ TrSs kd b b'
  | .raise e' => ∃ x q a r p c' a', st = .Raise (some (.Call (.Name x q) [a] [] r)) none p ∧ e' = .call c' [a'] ∧ TrE kd (.Name x q) c' ∧ TrE kd a a'
  | .try e' c b => ∃ e q x q₁ k q₂ q₃ q₄ p, st = .Try [.Expr e q] [.ExceptHandler (some (.Name x q₁)) none [.Return (some (.Constant (.bool b) k q₂)) q₃] q₄] [] [] p ∧ isComp e = false ∧ TrE kd e e' ∧ nm[c]? = some x ∧ kd x = some .globalImplicit
  | .junk => True
  | .defn _ _ => False
noncomputable def TrSs (kd : Kd) (ss : List Stmt) (ts : List S) : Prop := match ts with
  | [] => ss = []
  | t :: ts => ∃ s r, ss = s :: r ∧ TrS kd s t ∧ TrSs kd r ts
end
theorem TrSs.cons {kd : Kd} {s : Stmt} {ss : List Stmt} {t : S} {ts : List S} (h : TrS kd s t) (hs : TrSs kd ss ts) : TrSs kd (s :: ss) (t :: ts) := ⟨_, _, rfl, h, hs⟩

section
variable {kd : Kd} {a b c d o e : Expr} {p q r p₁ p₂ p₃ p₄ : Pos} {a' b' c' d' o' e' : T} {i j k k₁ k₂ : Nat} {x y : Str} {t : Expr} {t' : Tg} {bs cs : List Stmt} {bs' cs' : List S}
theorem TrS.expr (h : isComp e = false) (he : TrE kd e e') : TrS kd (.Expr e p) (.expr e') := ⟨_, _, rfl, h, he⟩
theorem TrS.asg (h : isComp e = false ∧ (isTupE e = false ∨ isName t = true)) (ht : TrTg kd t t') (he : TrE kd e e') : TrS kd (.Assign [t] e p) (.asg t' e') := .inl ⟨_, _, _, rfl, h.1, h.2, ht, he⟩
theorem TrS.asgC {gs : List Comprehension} {sc : Scope} (hc : isCompT e' = true) (hx : nm[i]? = some x) (h : swapsC kd x q (.ListComp e gs sc r) sc = true) (he : TrE kd (.ListComp e gs sc r) e') : TrS kd (.Assign [.Name x q] (.ListComp e gs sc r) p) (.asg (.name i) e') :=
  .inr ⟨_, _, _, _, _, _, _, _, rfl, rfl, hc, hx, h, he⟩
theorem TrS.asg2 (hx : nm[i]? = some x) (hy : nm[j]? = some y) (h : swaps2 kd x y p₁ p₂ a b = true) (ha : TrE kd a a') (hb : TrE kd b b') : TrS kd (.Assign [.Tuple [.Name x p₁, .Name y p₂] k₁ p₃] (.Tuple [a, b] k₂ p₄) p) (.asg2 i j a' b') :=
  ⟨_, _, _, _, _, _, _, _, _, _, _, rfl, hx, hy, h, ha, hb⟩
theorem TrS.setAttr (h : isComp e = false) (hx : nm[i]? = some x) (ho : TrE kd o o') (he : TrE kd e e') : TrS kd (.Assign [.Attribute o x q] e p) (.setAttr o' i e') := ⟨_, _, _, _, _, rfl, h, hx, ho, he⟩
theorem TrS.setIdx (h : isComp e = false) (ho : TrE kd o o') (ha : TrE kd a a') (he : TrE kd e e') : TrS kd (.Assign [.Subscript o a q] e p) (.setIdx o' a' e') := ⟨_, _, _, _, _, rfl, h, ho, ha, he⟩
theorem TrS.aug {o : Operator} {o' : Bop} (hx : nm[i]? = some x) (k : kd x = some .local) (h : bopOf o = some o') (he : TrE kd e e') : TrS kd (.AugAssign (.Name x q) o e p) (.aug i o' e') := ⟨_, _, _, _, _, rfl, hx, k, h, he⟩
theorem TrS.ret0 : TrS kd (.Return none p) (.ret none) := .inl ⟨_, rfl, rfl⟩
theorem TrS.ret (he : TrE kd e e') : TrS kd (.Return (some e) p) (.ret (some e')) := .inr ⟨_, _, _, rfl, rfl, he⟩
theorem TrS.ife (hc : TrE kd c c') (hb : TrSs kd bs bs') (hs : TrSs kd cs cs') : TrS kd (.If c bs cs p) (.ife c' bs' cs') := ⟨_, _, _, _, rfl, hc, hb, hs⟩
theorem TrS.while (hc : TrE kd c c') (hb : TrSs kd bs bs') : TrS kd (.While c bs [] p) (.while c' bs') := ⟨_, _, _, rfl, hc, hb⟩
theorem TrS.for (ht : TrTg kd t t') (he : TrE kd e e') (hb : TrSs kd bs bs') : TrS kd (.For t e bs [] p) (.for t' e' bs') := ⟨_, _, _, _, rfl, ht, he, hb⟩
theorem TrS.forZip (h : kd x = some .globalImplicit ∧ x = ("zip" : Str) ∧ isTupE t = true) (ht : TrTg kd t t') (ha : TrE kd a a') (hc : TrE kd c c') (hb : TrSs kd bs bs') : TrS kd (.For t (.Call (.Name x q) [a, c] [] r) bs [] p) (.forZip t' a' c' bs') :=
  ⟨_, _, _, _, _, _, _, _, rfl, h.1, h.2.1, h.2.2, ht, ha, hc, hb⟩
theorem TrS.raise (hc : TrE kd (.Name x q) c') (ha : TrE kd a a') : TrS kd (.Raise (some (.Call (.Name x q) [a] [] r)) none p) (.raise (.call c' [a'])) := ⟨_, _, _, _, _, _, _, rfl, rfl, hc, ha⟩
theorem TrS.try {b : Bool} (h : isComp e = false ∧ kd x = some .globalImplicit) (he : TrE kd e e') (hx : nm[i]? = some x) :
    TrS kd (.Try [.Expr e q] [.ExceptHandler (some (.Name x p₁)) none [.Return (some (.Constant (.bool b) k p₂)) p₃] p₄] [] [] p) (.try e' i b) := ⟨_, _, _, _, _, _, _, _, _, rfl, h.1, he, hx, h.2⟩
end

noncomputable def trJunk : List Stmt → List S
  | [] => []
  | _ :: r => .junk :: trJunk r
theorem trJunk_ok (kd : Kd) : ∀ ss, TrSs kd ss (trJunk ss)
  | [] => rfl
  | _ :: r => TrSs.cons trivial (trJunk_ok kd r)

structure TrSR (kd : Kd) where
  s : (s : Stmt) → {t : S // TrS kd s t}
  ss : (ss : List Stmt) → {ts : List S // TrSs kd ss ts}
noncomputable def trS0F (r : TrR) (kd : Kd) (q : TrSR kd) (s : Stmt) : Option {t : S // TrS kd s t} := match s with
    | .Expr e _ => if h : isComp e = false then (r.e kd e).map fun e => ⟨.expr e.1, .expr h e.2⟩ else none
    | .Assign [.Attribute o f _] e _ => if h : isComp e = false then (idC f).bind fun f => (r.e kd o).bind fun o => (r.e kd e).map fun e => ⟨.setAttr o.1 f.1 e.1, .setAttr h f.2 o.2 e.2⟩ else none
    | .Assign [.Subscript o i _] e _ => if h : isComp e = false then (r.e kd o).bind fun o => (r.e kd i).bind fun i => (r.e kd e).map fun e => ⟨.setIdx o.1 i.1 e.1, .setIdx h o.2 i.2 e.2⟩ else none
    | .Assign [.Name x q] (.ListComp e gs sc q') _ => (idC x).bind fun i => if h : swapsC kd x q (.ListComp e gs sc q') sc = true then (r.e kd (.ListComp e gs sc q')).bind fun t => if hc : isCompT t.1 = true then some ⟨.asg (.name i.1) t.1, .asgC hc i.2 h t.2⟩ else none else none
    | .Assign [.Tuple [.Name x px, .Name y py] _ _] (.Tuple [a, b] _ _) _ => (idC x).bind fun i => (idC y).bind fun j => if h : swaps2 kd x y px py a b = true then (r.e kd a).bind fun a => (r.e kd b).map fun b => ⟨.asg2 i.1 j.1 a.1 b.1, .asg2 i.2 j.2 h a.2 b.2⟩ else none
    | .Assign [t] e _ => if h : isComp e = false ∧ (isTupE e = false ∨ isName t = true) then (r.tg kd t).bind fun t => (r.e kd e).map fun e => ⟨.asg t.1 e.1, .asg h t.2 e.2⟩ else none
    | .AugAssign (.Name x _) o e _ => match ho : bopOf o with
      | some o' => (idC x).bind fun x' => if h : kd x = some .local then (r.e kd e).map fun e => ⟨.aug x'.1 o' e.1, .aug x'.2 h ho e.2⟩ else none
      | none => none
    | .Return none _ => some ⟨.ret none, .ret0⟩
    | .Return (some e) _ => (r.e kd e).map fun e => ⟨.ret (some e.1), .ret e.2⟩
    | .If c a b _ => (r.e kd c).map fun c => let a := q.ss a; let b := q.ss b; ⟨.ife c.1 a.1 b.1, .ife c.2 a.2 b.2⟩
    | .While c b [] _ => (r.e kd c).map fun c => let b := q.ss b; ⟨.while c.1 b.1, .while c.2 b.2⟩
    | .For t (.Call (.Name x _) [a, c] [] _) b [] _ => if h : kd x = some .globalImplicit ∧ x = ("zip" : Str) ∧ isTupE t = true then (r.tg kd t).bind fun t => (r.e kd a).bind fun a => (r.e kd c).map fun c => let b := q.ss b; ⟨.forZip t.1 a.1 c.1 b.1, .forZip h t.2 a.2 c.2 b.2⟩ else none
    | .For t e b [] _ => (r.tg kd t).bind fun t => (r.e kd e).map fun e => let b := q.ss b; ⟨.for t.1 e.1 b.1, .for t.2 e.2 b.2⟩
    | .Raise (some (.Call (.Name x q) [a] [] _)) none _ => (r.e kd (.Name x q)).bind fun c => (r.e kd a).map fun a => ⟨.raise (.call c.1 [a.1]), .raise c.2 a.2⟩
    | .Try [.Expr e _] [.ExceptHandler (some (.Name c _)) none [.Return (some (.Constant (.bool b) _ _)) _] _] [] [] _ => if h : isComp e = false ∧ kd c = some .globalImplicit then (r.e kd e).bind fun e => (idC c).map fun c => ⟨.try e.1 c.1 b, .try h e.2 c.2⟩ else none
    | _ => none
noncomputable def trSsF (kd : Kd) (q : TrSR kd) (ss : List Stmt) : {ts : List S // TrSs kd ss ts} := match ss with
  | [] => ⟨[], rfl⟩
  | s :: ss => let t := q.s s; let ts := q.ss ss; ⟨t.1 :: ts.1, .cons t.2 ts.2⟩
noncomputable def trSR (kd : Kd) (n : Nat) : TrSR kd := Nat.rec ⟨fun zz => ⟨.junk, trivial⟩, fun ss => ⟨trJunk ss, trJunk_ok kd ss⟩⟩ (fun n q => ⟨fun s => (trS0F (trR n) kd q s).getD ⟨.junk, trivial⟩, trSsF kd q⟩) n
noncomputable def cellsB : List (Str × NameKind) → List Nat → Bool
  | [], [] => true
  | [], _ :: _ => false
  | (x, k) :: r, cs => if k == .cell then (match cs with | c :: cs' => nm[c]? == some x && cellsB r cs' | [] => false) else cellsB r cs
structure TrFn (a : Arguments) (sc : Scope) (b : List Stmt) (fi : FI) : Prop where
  pos : a.posonlyargs = []
  va : a.vararg = none
  kwo : a.kwonlyargs = []
  kwa : a.kwarg = none
  params : TrTgs (kdOf sc) (a.args.map fun y => .Name y.arg default) fi.params
  nodup : (a.args.map (·.arg)).Nodup
  cells : cellsB sc.names fi.cells = true
  body : TrSs (kdOf sc) b fi.body
  kind : sc.kind = .function
  co : sc.isCoroutine = false
  gen : sc.isGenerator = false
noncomputable def noneB {α : Type} : Option α → Bool
  | none => true
  | _ => false
theorem noneB_ok {α : Type} {x : Option α} (h : noneB x = true) : x = none := by cases x <;> first | rfl | cases h
theorem nilB_ok {α : Type} {x : List α} (h : x.isEmpty = true) : x = [] := by cases x <;> first | rfl | cases h
noncomputable def trF (a : Arguments) (sc : Scope) (b : List Stmt) (d : List V) : Option {fi : FI // TrFn a sc b fi} :=
  if h : (a.posonlyargs.isEmpty = true ∧ noneB a.vararg = true ∧ a.kwonlyargs.isEmpty = true ∧ noneB a.kwarg = true) ∧ (a.args.map (·.arg)).Nodup ∧ sc.kind = .function ∧ sc.isCoroutine = false ∧ sc.isGenerator = false then
    ((trR 20).tgs (kdOf sc) (a.args.map fun y => .Name y.arg default)).bind fun ps => ((sc.names.filter fun x => x.2 == .cell).mapM fun x => idOf x.1).bind fun cs =>
      if hc : cellsB sc.names cs = true then
        let b' := (trSR (kdOf sc) 60).ss b
        some ⟨⟨ps.1, d, cs, b'.1⟩, ⟨nilB_ok h.1.1, noneB_ok h.1.2.1, nilB_ok h.1.2.2.1, noneB_ok h.1.2.2.2, ps.2, h.2.1, hc, b'.2, h.2.2.1, h.2.2.2.1, h.2.2.2.2⟩⟩
      else none
  else none
end Mine.Internal
end

section
open PySem
set_option autoImplicit false
namespace Mine.Internal

noncomputable abbrev Hp := List O
inductive R (α : Type) where
  | ok (a : α) (h : Hp)
  | ex (c : Nat) (m : V) (h : Hp)
  | no
noncomputable def R.ctorIdx {α : Type} (x : R α) : Nat := @R.casesOn α (fun zz => Nat) x (fun zz zz => 0) (fun zz zz zz => 1) 2
@[reducible] def R.bind {α β : Type} (r : R α) (k : α → Hp → R β) : R β := match r with
  | .ok a h => k a h
  | .ex c m h => .ex c m h
  | .no => .no
@[reducible] def R.noEx {α : Type} (r : R α) : R α := match r with
  | .ok a h => .ok a h
  | _ => .no
noncomputable def lk {α : Type} (x : Nat) : List (Nat × α) → Option α
  | [] => none
  | (y, v) :: r => if Nat.beq x y then some v else lk x r
noncomputable def put {α : Type} (x : Nat) (v : α) : List (Nat × α) → List (Nat × α)
  | [] => [(x, v)]
  | (y, w) :: r => if Nat.beq x y then (y, v) :: r else (y, w) :: put x v r
structure Fr' where
  loc : List (Nat × V)
  cel : List (Nat × Nat)
  dep : Nat
inductive Fl where | next | brk | cont | ret (v : V)
noncomputable def Fl.ctorIdx (x : Fl) : Nat := @Fl.casesOn (fun zz => Nat) x 0 1 2 (fun zz => 3)

structure Tab where
  glob : Nat → Option V
  fn : Nat → Option FI            -- defs, by address
  nested : Nat → Option FI        -- defs within defs, by line
  init : Nat → Option Nat         -- classes: the def of __init__
  meth : Nat → Nat → Option Nat   -- class, name: the def
  exc : Nat → Bool                -- an own exception class
  dict : Nat → Option (List (List Nat × V))
  fld : Nat → Nat → Bool          -- class, name: a field

noncomputable def LIM : Nat := 1048576
noncomputable def seqAt (vs : List V) (i : Int) : Option V := if 0 ≤ i then vs[i.toNat]? else if 0 ≤ i + vs.length then vs[(i + vs.length).toNat]? else none
noncomputable def seqPos (n : Nat) (i : Int) : Option Nat := if 0 ≤ i then (if i < n then some i.toNat else none) else if 0 ≤ i + n then some (i + n).toNat else none
noncomputable def clip (n : Nat) (i : Int) : Nat := if i < 0 then (i + n).toNat else min i.toNat n
noncomputable def cut (l : List Nat) (lo hi : Nat) : List Nat := (l.take hi).drop lo

noncomputable def eqps (f : V → V → Option Bool) : List V → List V → Option Bool
  | [], [] => some true
  | a :: r, b :: q => match f a b, eqps f r q with
    | some x, some y => some (x && y)
    | _, _ => none
  | _, _ => none
noncomputable def eqp : Nat → V → V → Option Bool
  | 0, _, _ => none
  | _ + 1, .int a, .int b => some (decide (a = b))
  | _ + 1, .str a, .str b => some (decide (a = b))
  | n + 1, .tup a, .tup b => eqps (eqp n) a b
  | _, _, _ => none
noncomputable def eqV (h : Hp) : V → V → Option Bool
  | .ref a, .ref b => match h[a]?, h[b]? with
    | some (.list x), some (.list y) => if x.length = y.length then eqps (eqp 4) x y else some false
    | _, _ => none
  | a, b => eqp 5 a b
noncomputable def truthy : V → Option Bool
  | .bool b => some b
  | _ => none
noncomputable def memStr (a : List Nat) : List V → Option Bool
  | [] => some false
  | .str b :: r => match memStr a r with
    | some k => some (decide (a = b) || k)
    | none => none
  | _ :: _ => none
noncomputable def inV (h : Hp) (a b : V) : Option Bool := match a with
  | .str a => match b with
    | .str l => match a with
      | [c] => some (l.contains c)
      | _ => none
    | .tup vs => memStr a vs
    | .ref n => match h[n]? with
      | some (.list vs) => memStr a vs
      | _ => none
    | _ => none
  | _ => none
noncomputable def ltI : Cop → Int → Int → Option Bool
  | .lt, a, b => some (decide (a < b))
  | .le, a, b => some (decide (a ≤ b))
  | .gt, a, b => some (decide (b < a))
  | .ge, a, b => some (decide (b ≤ a))
  | _, _, _ => none
noncomputable def ltV (o : Cop) (a b : V) : Option Bool := match a with
  | .int a => match b with
    | .int b => ltI o a b
    | _ => none
  | .str a => match b with
    | .str b => match o with
      | .le => match a with
        | [a] => match b with
          | [b] => some (decide (a ≤ b))
          | _ => none
        | _ => none
      | _ => none
    | _ => none
  | _ => none
noncomputable def cmpV (h : Hp) (o : Cop) (a b : V) : Option Bool := match o with
  | .eq => eqV h a b
  | .ne => (eqV h a b).map (!·)
  | .in_ => inV h a b
  | .notIn => (inV h a b).map (!·)
  | .is_ => none
  | .isNot => none
  | o => ltV o a b
noncomputable def binI (o : Bop) (a b : Int) : Option V := match o with
  | .add => some (.int (a + b))
  | .sub => some (.int (a - b))
  | .mul => if b.natAbs < 18446744073709551616 then some (.int (a * b)) else none
  | .fdiv => if b = 0 ∨ 1073741824 ≤ b.natAbs then none else some (.int (a.fdiv b))
  | .mod => if b = 0 then none else some (.int (a.fmod b))
  | .pow => if 0 ≤ b ∧ b ≤ 64 ∧ a = 10 then some (.int (a ^ b.toNat)) else none
noncomputable def binV (o : Bop) (a b : V) : Option V := match a with
  | .int a => match b with
    | .int b => binI o a b
    | _ => none
  | .str a => match b with
    | .str b => match o with
      | .add => if a.length + b.length ≤ LIM then some (.str (a ++ b)) else none
      | _ => none
    | _ => none
  | _ => none
noncomputable def digits (n : Nat) : List Nat := (Nat.toDigits 10 n).map Char.toNat
noncomputable def isDigit (c : Nat) : Bool := 48 ≤ c && c ≤ 57
noncomputable def numOf (l : List Nat) : Nat := l.foldl (fun a c => a * 10 + (c - 48)) 0
noncomputable def biL (b : Bi) (vs : List V) : Option V := match b with
  | .len => if vs.length ≤ LIM then some (.int vs.length) else none
  | .tuple => if vs.length ≤ LIM then some (.tup vs) else none
  | _ => none
noncomputable def biV1 (h : Hp) (b : Bi) (v : V) : Option V := match v with
  | .str l => match b with
    | .len => if l.length ≤ LIM then some (.int l.length) else none
    | .int => if l ≠ [] ∧ l.length ≤ 64 ∧ l.all isDigit then some (.int (numOf l)) else none
    | .ord => match l with | [c] => some (.int c) | _ => none
    | _ => none
  | .lst vs => match b with
    | .len => if vs.length ≤ LIM then some (.int vs.length) else none
    | _ => none
  | .ref n => match h[n]? with
    | some (.list vs) => biL b vs
    | _ => none
  | .bool c => match b with
    | .int => some (.int (if c then 1 else 0))
    | _ => none
  | .int i => match b with
    | .int => some (.int i)
    | .str => if 0 ≤ i ∧ i.toNat < 1000000 then some (.str (digits i.toNat)) else none
    | .abs => some (.int (if i < 0 then -i else i))
    | .range => if 0 ≤ i ∧ i.toNat ≤ LIM then some (.rng i) else none
    | _ => none
  | _ => none
noncomputable def maxV (a b : V) : Option V := match a with
  | .int a => match b with
    | .int b => some (.int (max a b))
    | _ => none
  | _ => none
noncomputable def biV (h : Hp) (b : Bi) (vs : List V) : Option V := match vs with
  | [] => none
  | v :: r => match r with
    | [] => biV1 h b v
    | w :: q => match q with
      | [] => match b with
        | .max => maxV v w
        | _ => none
      | _ :: _ => none
noncomputable def srcAt (h : Hp) (i : Nat) : V → Option (Option V)
  | .ref n => match h[n]? with
    | some (.list vs) => if i ≤ vs.length then some vs[i]? else none
    | _ => none
  | .rng n => some (if (i : Int) < n then some (.int i) else none)
  | _ => none
noncomputable def isSrc (h : Hp) : V → Bool
  | .ref n => match h[n]? with | some (.list _) => true | _ => false
  | .rng n => decide (0 ≤ n) && decide (n.toNat ≤ LIM)
  | _ => false
noncomputable def isLst (h : Hp) : V → Bool
  | .ref n => match h[n]? with | some (.list _) => true | _ => false
  | _ => false
noncomputable def find1 (c : Nat) : List Nat → Nat → Int
  | [], _ => -1
  | d :: r, i => if Nat.beq c d then i else find1 c r (i + 1)
noncomputable def repl1 (c : Nat) (b : List Nat) (l : List Nat) : List Nat := l.flatMap fun d => if Nat.beq c d then b else [d]
noncomputable def stripL (c : Nat) : List Nat → List Nat
  | [] => []
  | d :: r => if Nat.beq c d then stripL c r else d :: r
noncomputable def strip1 (c : Nat) (l : List Nat) : List Nat := (stripL c (stripL c l).reverse).reverse
noncomputable def strsOf : List V → Option (List (List Nat))
  | [] => some []
  | .str l :: r => (strsOf r).map (l :: ·)
  | _ :: _ => none
noncomputable def chr1 : V → Option Nat
  | .str l => match l with
    | [c] => some c
    | _ => none
  | _ => none
noncomputable def findV (l : List Nat) (c : Nat) : V → Option V
  | .int i => if 0 ≤ i then some (.int (find1 c (l.drop i.toNat) i.toNat)) else none
  | _ => none
noncomputable def joinV (h : Hp) : V → Option V
  | .ref n => match h[n]? with
    | some (.list vs) => (strsOf vs).bind fun ls => if ls.flatten.length ≤ LIM then some (.str ls.flatten) else none
    | _ => none
  | _ => none
noncomputable def strMeth (h : Hp) (l : List Nat) (f : Nat) (as : List V) : Option V := match as with
  | [] => none
  | a :: r => match r with
    | [] =>
      if f = 96 then (chr1 a).map fun c => .bool (l.getLast? == some c)      -- endswith(c)
      else if f = 113 then (chr1 a).bind fun c => if l.contains c then none else if l.length ≤ LIM then some (.tup [.str l, .str [], .str []]) else none      -- partition(c), c not within
      else if f = 180 then (chr1 a).bind fun c => if l.length ≤ LIM then some (.str (strip1 c l)) else none      -- strip(c)
      else if f = 145 ∧ l = [] then joinV h a      -- ''.join(list)
      else none
    | b :: q => match q with
      | [] => if f = 93 then (chr1 a).bind fun c => findV l c b else none      -- find(c, start)
      | _ :: _ => none

structure Rec where
  ev : T → Fr' → Hp → R V
  ex : S → Fr' → Hp → R (Fl × List (Nat × V))
  call : Nat → V → List V → Hp → R V
  forL : Tg → V → Nat → List S → Fr' → Hp → R (Fl × List (Nat × V))
  forZ : Tg → V → V → Nat → List S → Fr' → Hp → R (Fl × List (Nat × V))
  compL : T → Tg → V → List T → Nat → List V → Fr' → Hp → R (List V)
noncomputable def bot : Rec := ⟨fun zz zz zz => .no, fun zz zz zz => .no, fun zz zz zz zz => .no, fun zz zz zz zz zz zz => .no, fun zz zz zz zz zz zz zz => .no, fun zz zz zz zz zz zz zz zz => .no⟩

section
variable (P : Tab) (r : Rec)
noncomputable def lift (o : Option V) (h : Hp) : R V := match o with | some v => .ok v h | none => .no
noncomputable def evs (f : Fr') : List T → Hp → R (List V)
  | [], h => .ok [] h
  | t :: ts, h => (r.ev t f h).bind fun v h => (evs f ts h).bind fun vs h => .ok (v :: vs) h
noncomputable def tst (t : T) (f : Fr') (h : Hp) : R Bool := (r.ev t f h).bind fun v h => match truthy v with | some b => .ok b h | none => .no
noncomputable def tsts (f : Fr') : List T → Hp → R Bool
  | [], h => .ok true h
  | t :: ts, h => (tst r t f h).bind fun b h => if b then tsts f ts h else .ok false h
noncomputable def ands (f : Fr') : List T → Hp → R V
  | [], _ => .no
  | [t], h => r.ev t f h
  | t :: ts, h => (r.ev t f h).bind fun v h => match truthy v with
    | some true => ands f ts h
    | some false => .ok v h
    | none => .no
noncomputable def ors (f : Fr') : List T → Hp → R V
  | [], _ => .no
  | [t], h => r.ev t f h
  | t :: ts, h => (r.ev t f h).bind fun v h => match truthy v with
    | some false => ors f ts h
    | some true => .ok v h
    | none => .no
noncomputable def idxV (h : Hp) (a i : V) : Option V := match i with
  | .int i => match a with
    | .str l => if 0 ≤ i ∧ i < l.length ∧ i.natAbs ≤ LIM then (l[i.toNat]?).map fun c => .str [c] else none
    | .tup vs => if i.natAbs ≤ LIM then seqAt vs i else none
    | .lst vs => if 0 ≤ i ∧ i.natAbs ≤ LIM then vs[i.toNat]? else none
    | .ref n => match h[n]? with | some (.list vs) => if i.natAbs ≤ LIM then seqAt vs i else none | _ => none
    | _ => none
  | _ => none
noncomputable def cutV (a : V) (lo hi : Option V) : Option V := match a with
  | .str l => match hi with
    | some (.int b) => match lo with
      | some (.int a) => if 0 ≤ a ∧ a ≤ b ∧ l.length ≤ LIM then some (.str (cut l a.toNat b.toNat)) else none
      | none => if 0 ≤ b ∧ l.length ≤ LIM then some (.str (l.take b.toNat)) else none
      | _ => none
    | _ => none
  | _ => none
noncomputable def attrV (h : Hp) (a : V) (f : Nat) : Option V := match a with
  | .ref n => match h[n]? with | some (.inst c fs) => if P.fld c f then lk f fs else none | _ => none
  | _ => none
noncomputable def evOpt (f : Fr') : Option T → Hp → R (Option V)
  | none, h => .ok none h
  | some t, h => (r.ev t f h).bind fun v h => .ok (some v) h
inductive Mth where | str (f : Nat) | dget (a : Nat) | app (n : Nat) | fn (g : Nat)
noncomputable def Mth.ctorIdx (x : Mth) : Nat := @Mth.casesOn (fun zz => Nat) x (fun zz => 0) (fun zz => 1) (fun zz => 2) (fun zz => 3)
noncomputable def findM (o : V) (f : Nat) (h : Hp) : Option Mth := match o with
  | .str _ => if f = 93 ∨ f = 96 ∨ f = 113 ∨ f = 180 ∨ f = 145 then some (.str f) else none
  | .top a => if f = 128 ∧ (P.dict a).isSome = true then some (.dget a) else none
  | .ref n => match h[n]? with
    | some (.list _) => if f = 81 then some (.app n) else none
    | some (.inst c fs) => match lk f fs, P.meth c f with
      | none, some g => some (.fn g)
      | _, _ => none
    | _ => none
  | _ => none
noncomputable def runM (d : Nat) (o : V) (m : Mth) (as : List V) (h : Hp) : R V := match m with
  | .str f => match o with
    | .str l => lift (strMeth h l f as) h
    | _ => .no
  | .dget a => match P.dict a with
    | some es => match as with
      | [k, d] => match k with
        | .str k => .ok ((es.lookup k).getD d) h
        | _ => .no
      | _ => .no
    | none => .no
  | .app n => match h[n]? with
    | some (.list vs) => match as with
      | [v] => if vs.length ≤ LIM then .ok .none (h.set n (.list (vs ++ [v]))) else .no
      | _ => .no
    | _ => .no
  | .fn g => r.call d (.top g) (o :: as) h
noncomputable def canCall (h : Hp) : V → Bool
  | .top a => (P.fn a).isSome || (P.init a).isSome
  | .ref n => match h[n]? with | some (.clos _ _) => true | _ => false
  | _ => false
noncomputable def evF (t : T) (f : Fr') (h : Hp) : R V := match t with
  | .none => .ok .none h
  | .bool b => .ok (.bool b) h
  | .int i => .ok (.int i) h
  | .str l => .ok (.str l) h
  | .var x => lift (lk x f.loc) h
  | .cell x => match lk x f.cel with
    | some n => match h[n]? with | some (.cell (some v)) => .ok v h | _ => .no
    | none => .no
  | .glob x => lift (P.glob x) h
  | .bin o a b => (r.ev a f h).bind fun a h => (r.ev b f h).bind fun b h => lift (binV o a b) h
  | .neg a => (r.ev a f h).bind fun a h => match a with | .int i => .ok (.int (-i)) h | _ => .no
  | .not a => (tst r a f h).bind fun b h => .ok (.bool (!b)) h
  | .and as => ands r f as h
  | .or as => ors r f as h
  | .ite c a b => (tst r c f h).bind fun t h => if t then r.ev a f h else r.ev b f h
  | .cmp o a b => (r.ev a f h).bind fun a h => (r.ev b f h).bind fun b h => lift ((cmpV h o a b).map .bool) h
  | .cmp2 o₁ o₂ a b c => (r.ev a f h).bind fun a h => (r.ev b f h).bind fun b h => match cmpV h o₁ a b with
    | some true => (r.ev c f h).bind fun c h => lift ((cmpV h o₂ b c).map .bool) h
    | some false => .ok (.bool false) h
    | none => .no
  | .tup as => (evs r f as h).bind fun vs h => .ok (.tup vs) h
  | .lst as => (evs r f as h).bind fun vs h => .ok (.ref h.length) (h ++ [.list vs])
  | .idx a i => (r.ev a f h).bind fun a h => (r.ev i f h).bind fun i h => lift (idxV h a i) h
  | .slice a lo hi => (r.ev a f h).bind fun a h => (evOpt r f lo h).bind fun lo h => (evOpt r f hi h).bind fun hi h => lift (cutV a lo hi) h
  | .attr a n => (r.ev a f h).bind fun a h => lift (attrV P h a n) h
  | .call g as => (r.ev g f h).bind fun g h => (evs r f as h).bind fun as h => if canCall P h g then r.call f.dep g as h else .no
  | .bi b as => (evs r f as h).bind fun as h => lift (biV h b as) h
  | .meth o n as => (r.ev o f h).bind fun o h => match findM P o n h with
    | some m => (evs r f as h).bind fun as h => runM P r f.dep o m as h
    | none => .no
  | .repl o c b => (r.ev o f h).bind fun o h => match o with
    | .str l => if l.length ≤ 4096 ∧ b.length ≤ 16 ∧ [c] ≠ b then .ok (.str (repl1 c b l)) h else .no
    | _ => .no
  | .comp e t src cs fv => if fv.all (fun x => (lk x f.cel).isSome) then (r.ev src f h).bind fun s h => if isSrc h s then (r.compL e t s cs 0 [] ⟨[], f.cel.filter fun p => fv.contains p.1, f.dep⟩ h).noEx.bind fun vs h => .ok (.ref h.length) (h ++ [.list vs]) else .no else .no

mutual
noncomputable def asgT (f : Fr') (h : Hp) : Tg → V → Option (List (Nat × V) × Hp)
  | .name x, v => some (put x v f.loc, h)
  | .cel x, v => match lk x f.cel with
    | some n => match h[n]? with | some (.cell _) => some (f.loc, h.set n (.cell (some v))) | _ => none
    | none => none
  | .tup ts, .tup vs => asgTs f h ts vs
  | _, _ => none
noncomputable def asgTs (f : Fr') (h : Hp) : List Tg → List V → Option (List (Nat × V) × Hp)
  | [], [] => some (f.loc, h)
  | t :: ts, v :: vs => match asgT f h t v with
    | some (l, h) => asgTs ⟨l, f.cel, f.dep⟩ h ts vs
    | none => none
  | _, _ => none
end
noncomputable def exs : List S → Fr' → Hp → R (Fl × List (Nat × V))
  | [], f, h => .ok (.next, f.loc) h
  | s :: ss, f, h => (r.ex s f h).bind fun (fl, l) h => match fl with
    | .next => exs ss ⟨l, f.cel, f.dep⟩ h
    | _ => .ok (fl, l) h
noncomputable def exF (s : S) (f : Fr') (h : Hp) : R (Fl × List (Nat × V)) := match s with
  | .expr e => (r.ev e f h).bind fun zz h => .ok (.next, f.loc) h
  | .asg t e => (r.ev e f h).bind fun v h => match asgT f h t v with
    | some (l, h) => .ok (.next, l) h
    | none => .no
  | .setAttr o n e => (r.ev e f h).bind fun v h => (r.ev o f h).bind fun o h => match o with
    | .ref k => match h[k]? with
      | some (.inst c fs) => if P.fld c n && decide (fs.length < 100) then .ok (.next, f.loc) (h.set k (.inst c (put n v fs))) else .no
      | _ => .no
    | _ => .no
  | .setIdx o i e => (r.ev e f h).bind fun v h => (r.ev o f h).bind fun o h => (r.ev i f h).bind fun i h => match o, i with
    | .ref k, .int i => match h[k]? with
      | some (.list vs) => match seqPos vs.length i with
        | some j => if i.natAbs ≤ LIM then .ok (.next, f.loc) (h.set k (.list (vs.set j v))) else .no
        | none => .no
      | _ => .no
    | _, _ => .no
  | .aug x o e => match lk x f.loc with
    | some (.int a) => (r.ev e f h).bind fun b h => match o, b with
      | .add, .int b => .ok (.next, put x (.int (a + b)) f.loc) h
      | _, _ => .no
    | _ => .no
  | .asg2 x y a b => (r.ev a f h).bind fun a h => (r.ev b f h).bind fun b h => .ok (.next, put x a (put y b f.loc)) h
  | .junk => .no
  | .ret none => .ok (.ret .none, f.loc) h
  | .ret (some e) => (r.ev e f h).bind fun v h => .ok (.ret v, f.loc) h
  | .ife c a b => (tst r c f h).bind fun t h => if t then exs r a f h else exs r b f h
  | .while c b => (tst r c f h).bind fun t h => if t then (exs r b f h).bind fun (fl, l) h => (match fl with
      | .next | .cont => r.ex (.while c b) ⟨l, f.cel, f.dep⟩ h
      | .brk => .ok (.next, l) h
      | .ret v => .ok (.ret v, l) h) else .ok (.next, f.loc) h
  | .for t src b => (r.ev src f h).bind fun v h => if isSrc h v then r.forL t v 0 b f h else .no
  | .forZip t a c b => (r.ev a f h).bind fun a h => (r.ev c f h).bind fun c h => if isLst h a && isLst h c then r.forZ t a c 0 b f h else .no
  | .raise (.call g [a]) => (r.ev g f h).bind fun g h => (r.ev a f h).bind fun m h => match g, m with
    | .top c, .str l => if P.exc c ∧ f.dep < 50 then .ex c (.str l) h else .no
    | _, _ => .no
  | .raise _ => .no
  | .try e c b => match r.ev e f h with
    | .ok _ h => .ok (.next, f.loc) h
    | .ex k _ h => match P.glob c with
      | some (.top c) => if k = c ∧ P.exc c = true then .ok (.ret (.bool b), f.loc) h else .no
      | _ => .no
    | .no => .no
  | .defn x k => .ok (.next, put x (.ref h.length) f.loc) (h ++ [.clos k f.cel])
noncomputable def forF (t : Tg) (src : V) (i : Nat) (b : List S) (f : Fr') (h : Hp) : R (Fl × List (Nat × V)) := match srcAt h i src with
  | some (some v) => match asgT f h t v with
    | some (l, h) => (exs r b ⟨l, f.cel, f.dep⟩ h).bind fun (fl, l) h => match fl with
      | .next | .cont => r.forL t src (i + 1) b ⟨l, f.cel, f.dep⟩ h
      | .brk => .ok (.next, l) h
      | .ret v => .ok (.ret v, l) h
    | none => .no
  | some none => .ok (.next, f.loc) h
  | none => .no
noncomputable def forZF (t : Tg) (s₁ s₂ : V) (i : Nat) (b : List S) (f : Fr') (h : Hp) : R (Fl × List (Nat × V)) := match srcAt h i s₁ with
  | some (some v) => match srcAt h i s₂ with
    | some (some w) => match asgT f h t (.tup [v, w]) with
      | some (l, h) => (exs r b ⟨l, f.cel, f.dep⟩ h).bind fun (fl, l) h => match fl with
        | .next | .cont => r.forZ t s₁ s₂ (i + 1) b ⟨l, f.cel, f.dep⟩ h
        | .brk => .ok (.next, l) h
        | .ret v => .ok (.ret v, l) h
      | none => .no
    | some none => .ok (.next, f.loc) h
    | none => .no
  | some none => match srcAt h i s₂ with
    | some _ => .ok (.next, f.loc) h
    | none => .no
  | none => .no
noncomputable def compF (e : T) (t : Tg) (src : V) (cs : List T) (i : Nat) (acc : List V) (f : Fr') (h : Hp) : R (List V) := match srcAt h i src with
  | some (some v) => match asgT f h t v with
    | some (l, h) => (tsts r ⟨l, f.cel, f.dep⟩ cs h).bind fun b h => if b then (r.ev e ⟨l, f.cel, f.dep⟩ h).bind fun v h => if acc.length ≤ LIM then r.compL e t src cs (i + 1) (acc ++ [v]) ⟨l, f.cel, f.dep⟩ h else .no
        else r.compL e t src cs (i + 1) acc ⟨l, f.cel, f.dep⟩ h
    | none => .no
  | some none => .ok acc h
  | none => .no
noncomputable def bindP (fi : FI) (as : List V) : Option (List V) :=
  let k := fi.params.length
  let n := as.length
  if n ≤ k ∧ fi.dflts.length ≤ k ∧ k ≤ n + fi.dflts.length then some (as ++ fi.dflts.drop (n + fi.dflts.length - k)) else none
noncomputable def mkCells : List Nat → List (Nat × Nat) → Hp → List (Nat × Nat) × Hp
  | [], acc, h => (acc, h)
  | c :: r, acc, h => mkCells r ((c, h.length) :: acc) (h ++ [.cell none])
noncomputable def runFn (d : Nat) (fi : FI) (cel : List (Nat × Nat)) (as : List V) (h : Hp) : R V := if d < 60 then (match bindP fi as with
  | some vs => match asgTs ⟨[], (mkCells fi.cells cel h).1, d + 1⟩ (mkCells fi.cells cel h).2 fi.params vs with
    | some (l, h') => (exs r fi.body ⟨l, (mkCells fi.cells cel h).1, d + 1⟩ h').bind fun (fl, _) h => match fl with
      | .ret v => .ok v h
      | .next => .ok .none h
      | _ => .no
    | none => .no
  | none => .no) else .no
noncomputable def callF (d : Nat) (g : V) (as : List V) (h : Hp) : R V := match g with
  | .top a => match P.fn a with
    | some fi => runFn r d fi [] as h
    | none => match P.init a with
      | some i => if d < 60 then (r.call (d + 1) (.top i) (.ref h.length :: as) (h ++ [.inst a []])).bind fun v h' => (match v with | .none => .ok (.ref h.length) h' | _ => .no) else .no
      | none => .no
  | .ref n => match h[n]? with
    | some (.clos k cs) => match P.nested k with
      | some fi => runFn r d fi cs as h
      | none => .no
    | _ => .no
  | _ => .no
noncomputable def stepR : Rec := ⟨evF P r, exF P r, callF P r, forF r, forZF r, compF r⟩
end
noncomputable def run (P : Tab) : Nat → Rec
  | 0 => bot
  | n + 1 => stepR P (run P n)
end Mine.Internal
end

section
open PySem
set_option autoImplicit false
namespace Mine.Internal
theorem no_some {α : Type} {v : α} {P : Prop} (h : none = some v) : P := nomatch h
theorem no_true {P : Prop} (h : false = true) : P := nomatch h
theorem memStr_cons {a : List Nat} {v : V} {vs : List V} {k : Bool} (e : memStr a (v :: vs) = some k) : ∃ b k', v = .str b ∧ memStr a vs = some k' ∧ (decide (a = b) || k') = k := by
  cases v with
  | str b =>
    change (match memStr a vs with
      | some k => some (decide (a = b) || k)
      | none => none) = some k at e
    cases q : memStr a vs with
    | none => rw [q] at e; exact no_some e
    | some k' => rw [q] at e; exact ⟨b, k', rfl, rfl, Option.some.inj e⟩
  | _ => exact no_some e
theorem strsOf_cons {v : V} {vs : List V} {ls : List (List Nat)} (e : strsOf (v :: vs) = some ls) : ∃ l, v = .str l ∧ (strsOf vs).map (l :: ·) = some ls := by
  cases v <;> first | exact no_some e | exact ⟨_, rfl, e⟩
theorem eqps_nil {f : V → V → Option Bool} {ys : List V} {k : Bool} (e : eqps f [] ys = some k) : ys = [] ∧ true = k := by
  cases ys with
  | nil => exact ⟨rfl, Option.some.inj e⟩
  | cons => exact no_some e
theorem eqps_cons {f : V → V → Option Bool} {a : V} {r ys : List V} {k : Bool} (e : eqps f (a :: r) ys = some k) : ∃ b q x y, ys = b :: q ∧ f a b = some x ∧ eqps f r q = some y ∧ (x && y) = k := by
  cases ys with
  | nil => exact no_some e
  | cons b q =>
    have e : (match f a b, eqps f r q with | some x, some y => some (x && y) | _, _ => none) = some k := e
    cases e1 : f a b with
    | none => rw [e1] at e; exact no_some e
    | some x => cases e2 : eqps f r q with
      | none => rw [e1, e2] at e; exact no_some e
      | some y => rw [e1, e2] at e; exact ⟨b, q, x, y, rfl, e1, e2, Option.some.inj e⟩
theorem eqp_str {n : Nat} {s : List Nat} : eqp (n + 1) (.str s) (.str s) = some true := congrArg some (decide_eq_true rfl)
theorem lk_cons {α : Type} {x y : Nat} {v : α} {r : List (Nat × α)} : lk x ((y, v) :: r) = if Nat.beq x y then some v else lk x r := rfl
theorem put_cons {α : Type} {x y : Nat} {v w : α} {r : List (Nat × α)} : put x v ((y, w) :: r) = if Nat.beq x y then (y, v) :: r else (y, w) :: put x v r := rfl
theorem put_nil {α : Type} {x : Nat} {v : α} : put x v [] = [(x, v)] := rfl
theorem lk_nil {α : Type} {x : Nat} : lk x ([] : List (Nat × α)) = none := rfl
theorem if_some {c : Prop} {α : Type} [Decidable c] {o : Option α} {v : α} (e : (if c then o else none) = some v) : c ∧ o = some v := by
  by_cases h : c
  · rw [if_pos h] at e; exact ⟨h, e⟩
  · rw [if_neg h] at e; exact no_some e
section
variable {P : Tab} {h : Hp} {v w : V} {i n : Nat}
theorem isLst_inv (e : isLst h v = true) : ∃ n vs, v = .ref n ∧ h[n]? = some (.list vs) := by
  cases v with
  | ref n =>
    change (match h[n]? with | some (.list _) => true | _ => false) = true at e
    cases q : h[n]? with
    | none => rw [q] at e; exact no_true e
    | some o => rw [q] at e; cases o <;> first | exact no_true e | exact ⟨n, _, rfl, q⟩
  | _ => exact no_true e
theorem isSrc_inv (e : isSrc h v = true) : (∃ n vs, v = .ref n ∧ h[n]? = some (.list vs)) ∨ ∃ n, v = .rng n ∧ 0 ≤ n ∧ n.toNat ≤ LIM := by
  cases v with
  | ref n =>
    change (match h[n]? with | some (.list _) => true | _ => false) = true at e
    cases q : h[n]? with
    | none => rw [q] at e; exact no_true e
    | some o => rw [q] at e; cases o <;> first | exact no_true e | exact .inl ⟨n, _, rfl, q⟩
  | rng n =>
    have e := Bool.and_eq_true_iff.mp (e : (decide (0 ≤ n) && decide (n.toNat ≤ LIM)) = true)
    exact .inr ⟨n, rfl, of_decide_eq_true e.1, of_decide_eq_true e.2⟩
  | _ => exact no_true e
theorem srcAt_inv {o : Option V} (e : srcAt h i v = some o) : (∃ n vs, v = .ref n ∧ h[n]? = some (.list vs) ∧ i ≤ vs.length ∧ o = vs[i]?) ∨ ∃ n : Int, v = .rng n ∧ o = if (i : Int) < n then some (.int i) else none := by
  cases v with
  | ref n =>
    change (match h[n]? with | some (.list vs) => if i ≤ vs.length then some vs[i]? else none | _ => none) = some o at e
    cases q : h[n]? with
    | none => rw [q] at e; exact no_some e
    | some b =>
      rw [q] at e
      cases b <;> first
        | exact no_some e
        | (obtain ⟨e1, e2⟩ := if_some e; exact .inl ⟨n, _, rfl, q, e1, (Option.some.inj e2).symm⟩)
  | rng n => exact .inr ⟨n, rfl, (Option.some.inj e).symm⟩
  | _ => exact no_some e
theorem attrV_inv {f : Nat} (e : attrV P h w f = some v) : ∃ n c fs, w = .ref n ∧ h[n]? = some (.inst c fs) ∧ P.fld c f = true ∧ lk f fs = some v := by
  cases w with
  | ref n =>
    change (match h[n]? with | some (.inst c fs) => if P.fld c f then lk f fs else none | _ => none) = some v at e
    cases q : h[n]? with
    | none => rw [q] at e; exact no_some e
    | some b =>
      rw [q] at e
      cases b <;> first
        | exact no_some e
        | (obtain ⟨e1, e2⟩ := if_some e; exact ⟨n, _, _, rfl, q, e1, e2⟩)
  | _ => exact no_some e
theorem canCall_inv (e : canCall P h v = true) : (∃ a, v = .top a ∧ ((P.fn a).isSome || (P.init a).isSome) = true) ∨ ∃ n k cs, v = .ref n ∧ h[n]? = some (.clos k cs) := by
  cases v with
  | ref n =>
    change (match h[n]? with | some (.clos _ _) => true | _ => false) = true at e
    cases q : h[n]? with
    | none => rw [q] at e; exact no_true e
    | some o => rw [q] at e; cases o <;> first | exact no_true e | exact .inr ⟨n, _, _, rfl, q⟩
  | top a => exact .inl ⟨a, rfl, e⟩
  | _ => exact no_true e
end
theorem eqV_inv {h : Hp} {a b : V} {k : Bool} (e : eqV h a b = some k) : (∃ m n x y, a = .ref m ∧ b = .ref n ∧ h[m]? = some (.list x) ∧ h[n]? = some (.list y) ∧ (if x.length = y.length then eqps (eqp 4) x y else some false) = some k) ∨ eqp 5 a b = some k := by
  cases a with
  | ref m =>
    cases b with
    | ref n =>
      change (match h[m]?, h[n]? with
        | some (.list x), some (.list y) => if x.length = y.length then eqps (eqp 4) x y else some false
        | _, _ => none) = some k at e
      cases q : h[m]? with
      | none => rw [q] at e; exact no_some e
      | some o =>
        cases q' : h[n]? with
        | none => rw [q, q'] at e; cases o <;> exact no_some e
        | some o' => rw [q, q'] at e; cases o <;> first | exact no_some e | (cases o' <;> first | exact no_some e | exact .inl ⟨m, n, _, _, rfl, rfl, q, q', e⟩)
    | _ => exact .inr e
  | _ => exact .inr e
section
variable {f : Fr'} {h : Hp} {i : Nat} {v : V} {vs : List V} {t : Tg} {ts : List Tg} {p : List (Nat × V) × Hp}
theorem asgT_cel (e : asgT f h (.cel i) v = some p) : ∃ n o, lk i f.cel = some n ∧ h[n]? = some (.cell o) ∧ p = (f.loc, h.set n (.cell (some v))) := by
  change (match lk i f.cel with
    | some n => match h[n]? with | some (.cell _) => some (f.loc, h.set n (.cell (some v))) | _ => none
    | none => none) = some p at e
  cases hn : lk i f.cel with
  | none => rw [hn] at e; exact no_some e
  | some n =>
    rw [hn] at e
    dsimp only at e
    cases ho : h[n]? with
    | none => rw [ho] at e; exact no_some e
    | some o =>
      rw [ho] at e
      cases o <;> first | exact no_some e | exact ⟨n, _, rfl, ho, (Option.some.inj e).symm⟩
theorem asgT_tup (e : asgT f h (.tup ts) v = some p) : ∃ vs, v = .tup vs ∧ asgTs f h ts vs = some p := by
  cases v <;> first | exact no_some e | exact ⟨_, rfl, e⟩
theorem asgTs_nil (e : asgTs f h [] vs = some p) : vs = [] ∧ p = (f.loc, h) := by
  cases vs with
  | nil => exact ⟨rfl, (Option.some.inj e).symm⟩
  | cons => exact no_some e
theorem asgTs_cons (e : asgTs f h (t :: ts) vs = some p) : ∃ v r l h', vs = v :: r ∧ asgT f h t v = some (l, h') ∧ asgTs ⟨l, f.cel, f.dep⟩ h' ts r = some p := by
  cases vs with
  | nil => exact no_some e
  | cons v vs =>
    change (match asgT f h t v with
      | some (l, h) => asgTs ⟨l, f.cel, f.dep⟩ h ts vs
      | none => none) = some p at e
    cases e1 : asgT f h t v with
    | none => rw [e1] at e; exact no_some e
    | some q => rw [e1] at e; exact ⟨v, vs, q.1, q.2, rfl, e1, e⟩
end
end Mine.Internal
end

section
open PySem
set_option autoImplicit false
set_option maxRecDepth 100000
namespace Mine.Internal

noncomputable def fi_common_divisor : FI := { params := [Tg.name 9, Tg.name 10], dflts := [], cells := [], body := [S.asg2 11 12 (T.bi (Bi.abs) [T.var 9]) (T.var 10), S.while (T.cmp (Cop.gt) (T.var 12) (T.int 0)) [S.asg2 11 12 (T.var 12) (T.bin (Bop.mod) (T.var 11) (T.var 12))], S.ret (some (T.var 11))] }
noncomputable def fi_number_of : FI := { params := [Tg.name 17, Tg.name 18], dflts := [V.int 1], cells := [], body := [S.ife (T.cmp (Cop.eq) (T.var 18) (T.int 0)) [S.ret (some (T.tup [T.call (T.glob 14) [T.var 17], T.int 0]))] [], S.ife (T.cmp (Cop.lt) (T.var 18) (T.int 0)) [S.asg2 17 18 (T.neg (T.var 17)) (T.neg (T.var 18))] [], S.asg (Tg.name 19) (T.call (T.glob 8) [T.var 17, T.var 18]), S.ret (some (T.tup [T.bin (Bop.fdiv) (T.var 17) (T.var 19), T.bin (Bop.fdiv) (T.var 18) (T.var 19)]))] }
noncomputable def fi_is_space : FI := { params := [Tg.name 56], dflts := [], cells := [], body := [S.ret (some (T.and [T.cmp (Cop.in_) (T.var 56) (T.glob 46), T.cmp (Cop.ne) (T.var 56) (T.str [])]))] }
noncomputable def fi_is_small_letter : FI := { params := [Tg.name 56], dflts := [], cells := [], body := [S.ret (some (T.cmp2 (Cop.le) (Cop.le) (T.str [97]) (T.var 56) (T.str [122])))] }
noncomputable def fi_is_name_start : FI := { params := [Tg.name 56], dflts := [], cells := [], body := [S.ife (T.cmp (Cop.lt) (T.bi (Bi.ord) [T.var 56]) (T.glob 49)) [S.ret (some (T.or [T.call (T.glob 57) [T.var 56], T.cmp2 (Cop.le) (Cop.le) (T.str [65]) (T.var 56) (T.str [90]), T.cmp (Cop.eq) (T.var 56) (T.str [95]), T.cmp (Cop.eq) (T.var 56) (T.str [58])]))] [], S.ret (some (T.call (T.glob 50) [T.bi (Bi.ord) [T.var 56], T.glob 47]))] }
noncomputable def fi_is_name_char : FI := { params := [Tg.name 56], dflts := [], cells := [], body := [S.ife (T.call (T.glob 58) [T.var 56]) [S.ret (some (T.bool true))] [], S.ife (T.cmp (Cop.lt) (T.bi (Bi.ord) [T.var 56]) (T.glob 49)) [S.ret (some (T.or [T.cmp2 (Cop.le) (Cop.le) (T.str [48]) (T.var 56) (T.str [57]), T.cmp (Cop.eq) (T.var 56) (T.str [45]), T.cmp (Cop.eq) (T.var 56) (T.str [46])]))] [], S.ret (some (T.call (T.glob 50) [T.bi (Bi.ord) [T.var 56], T.glob 48]))] }
noncomputable def fi_Word___init__ : FI := { params := [Tg.name 4, Tg.name 69, Tg.name 70, Tg.name 71], dflts := [], cells := [], body := [S.setAttr (T.var 4) 69 (T.var 69), S.setAttr (T.var 4) 70 (T.var 70), S.setAttr (T.var 4) 71 (T.var 71)] }
noncomputable def fi_Word_is_sign : FI := { params := [Tg.name 4, Tg.name 70], dflts := [], cells := [], body := [S.ret (some (T.and [T.cmp (Cop.eq) (T.attr (T.var 4) 69) (T.str [115, 105, 103, 110]), T.cmp (Cop.eq) (T.attr (T.var 4) 70) (T.var 70)]))] }
noncomputable def fi_Word_is_operator : FI := { params := [Tg.name 4, Tg.name 70], dflts := [], cells := [], body := [S.ret (some (T.and [T.cmp (Cop.eq) (T.attr (T.var 4) 69) (T.str [111, 112, 101, 114, 97, 116, 111, 114]), T.cmp (Cop.eq) (T.attr (T.var 4) 70) (T.var 70)]))] }
noncomputable def fi_PathScanner___init__ : FI := { params := [Tg.name 4, Tg.name 70], dflts := [], cells := [], body := [S.setAttr (T.var 4) 70 (T.var 70), S.setAttr (T.var 4) 75 (T.int 0), S.setAttr (T.var 4) 76 (T.lst [])] }
noncomputable def fi_PathScanner_sign : FI := { params := [Tg.name 4, Tg.name 77], dflts := [V.int 0], cells := [], body := [S.asg (Tg.name 71) (T.bin (Bop.add) (T.attr (T.var 4) 75) (T.var 77)), S.ret (some (T.ite (T.cmp (Cop.lt) (T.var 71) (T.bi (Bi.len) [T.attr (T.var 4) 70])) (T.idx (T.attr (T.var 4) 70) (T.var 71)) (T.str [])))] }
noncomputable def fi_PathScanner_add : FI := { params := [Tg.name 4, Tg.name 69, Tg.name 70, Tg.name 80], dflts := [], cells := [], body := [S.expr (T.meth (T.attr (T.var 4) 76) 81 [T.call (T.glob 68) [T.var 69, T.var 70, T.var 80]])] }
noncomputable def fi_PathScanner_run : FI := { params := [Tg.name 4], dflts := [], cells := [], body := [S.expr (T.meth (T.var 4) 83 []), S.while (T.cmp (Cop.lt) (T.attr (T.var 4) 75) (T.bi (Bi.len) [T.attr (T.var 4) 70])) [S.expr (T.meth (T.var 4) 84 []), S.expr (T.meth (T.var 4) 83 [])], S.expr (T.meth (T.var 4) 79 [T.str [101, 110, 100], T.str [], T.attr (T.var 4) 75]), S.ret (some (T.attr (T.var 4) 76))] }
noncomputable def fi_PathScanner_skip : FI := { params := [Tg.name 4], dflts := [], cells := [], body := [S.while (T.and [T.cmp (Cop.lt) (T.attr (T.var 4) 75) (T.bi (Bi.len) [T.attr (T.var 4) 70]), T.call (T.glob 55) [T.idx (T.attr (T.var 4) 70) (T.attr (T.var 4) 75)]]) [S.setAttr (T.var 4) 75 (T.bin (Bop.add) (T.attr (T.var 4) 75) (T.int 1))]] }
noncomputable def fi_PathScanner_is_behind_operand : FI := { params := [Tg.name 4], dflts := [], cells := [], body := [S.ife (T.cmp (Cop.eq) (T.attr (T.var 4) 76) (T.lst [])) [S.ret (some (T.bool false))] [], S.asg (Tg.name 86) (T.idx (T.attr (T.var 4) 76) (T.neg (T.int 1))), S.ife (T.cmp (Cop.eq) (T.attr (T.var 86) 69) (T.str [111, 112, 101, 114, 97, 116, 111, 114])) [S.ret (some (T.bool false))] [], S.ret (some (T.not (T.and [T.cmp (Cop.eq) (T.attr (T.var 86) 69) (T.str [115, 105, 103, 110]), T.cmp (Cop.in_) (T.attr (T.var 86) 70) (T.glob 67)])))] }
noncomputable def fi_PathScanner_step : FI := { params := [Tg.name 4], dflts := [], cells := [], body := [S.asg (Tg.name 56) (T.meth (T.var 4) 56 []), S.ife (T.or [T.cmp (Cop.in_) (T.var 56) (T.glob 61), T.and [T.cmp (Cop.eq) (T.var 56) (T.str [46]), T.cmp (Cop.ne) (T.meth (T.var 4) 56 [T.int 1]) (T.str []), T.cmp (Cop.in_) (T.meth (T.var 4) 56 [T.int 1]) (T.glob 61)]]) [S.expr (T.meth (T.var 4) 15 [])] [S.ife (T.cmp (Cop.in_) (T.var 56) (T.tup [T.str [39], T.str [34]])) [S.expr (T.meth (T.var 4) 87 [T.var 56])] [S.ife (T.cmp (Cop.eq) (T.var 56) (T.str [36])) [S.expr (T.meth (T.var 4) 88 [])] [S.ife (T.cmp (Cop.eq) (T.var 56) (T.str [42])) [S.setAttr (T.var 4) 75 (T.bin (Bop.add) (T.attr (T.var 4) 75) (T.int 1)), S.expr (T.meth (T.var 4) 79 [T.ite (T.meth (T.var 4) 85 []) (T.str [111, 112, 101, 114, 97, 116, 111, 114]) (T.str [110, 97, 109, 101]), T.str [42], T.bin (Bop.sub) (T.attr (T.var 4) 75) (T.int 1)])] [S.ife (T.and [T.call (T.glob 58) [T.var 56], T.cmp (Cop.ne) (T.var 56) (T.str [58])]) [S.expr (T.meth (T.var 4) 29 [])] [S.expr (T.meth (T.var 4) 89 [])]]]]]] }
noncomputable def fi_PathScanner_number : FI := { params := [Tg.name 4], dflts := [], cells := [], body := [S.asg (Tg.name 80) (T.attr (T.var 4) 75), S.expr (T.meth (T.var 4) 90 []), S.ife (T.and [T.cmp (Cop.eq) (T.meth (T.var 4) 56 []) (T.str [46]), T.cmp (Cop.ne) (T.meth (T.var 4) 56 [T.int 1]) (T.str [46])]) [S.setAttr (T.var 4) 75 (T.bin (Bop.add) (T.attr (T.var 4) 75) (T.int 1)), S.expr (T.meth (T.var 4) 90 [])] [], S.expr (T.meth (T.var 4) 79 [T.str [110, 117, 109, 98, 101, 114], T.slice (T.attr (T.var 4) 70) (some (T.var 80)) (some (T.attr (T.var 4) 75)), T.var 80])] }
noncomputable def fi_PathScanner_figures : FI := { params := [Tg.name 4], dflts := [], cells := [], body := [S.while (T.and [T.cmp (Cop.ne) (T.meth (T.var 4) 56 []) (T.str []), T.cmp (Cop.in_) (T.meth (T.var 4) 56 []) (T.glob 61)]) [S.setAttr (T.var 4) 75 (T.bin (Bop.add) (T.attr (T.var 4) 75) (T.int 1))]] }
noncomputable def fi_PathScanner_literal : FI := { params := [Tg.name 4, Tg.name 91], dflts := [], cells := [], body := [S.asg (Tg.name 80) (T.attr (T.var 4) 75), S.asg (Tg.name 92) (T.meth (T.attr (T.var 4) 70) 93 [T.var 91, T.bin (Bop.add) (T.var 80) (T.int 1)]), S.ife (T.cmp (Cop.lt) (T.var 92) (T.int 0)) [S.raise (T.call (T.glob 6) [T.bin (Bop.add) (T.str [97, 32, 113, 117, 111, 116, 101, 32, 105, 115, 32, 110, 111, 116, 32, 99, 108, 111, 115, 101, 100, 32, 97, 116, 32]) (T.bi (Bi.str) [T.var 80])])] [], S.setAttr (T.var 4) 75 (T.bin (Bop.add) (T.var 92) (T.int 1)), S.expr (T.meth (T.var 4) 79 [T.str [108, 105, 116, 101, 114, 97, 108], T.slice (T.attr (T.var 4) 70) (some (T.bin (Bop.add) (T.var 80) (T.int 1))) (some (T.var 92)), T.var 80])] }
noncomputable def fi_PathScanner_plain_name : FI := { params := [Tg.name 4], dflts := [], cells := [], body := [S.asg (Tg.name 80) (T.attr (T.var 4) 75), S.ife (T.or [T.cmp (Cop.eq) (T.meth (T.var 4) 56 []) (T.str []), T.cmp (Cop.eq) (T.meth (T.var 4) 56 []) (T.str [58]), T.not (T.call (T.glob 58) [T.meth (T.var 4) 56 []])]) [S.ret (some (T.str []))] [], S.while (T.and [T.cmp (Cop.ne) (T.meth (T.var 4) 56 []) (T.str []), T.cmp (Cop.ne) (T.meth (T.var 4) 56 []) (T.str [58]), T.call (T.glob 60) [T.meth (T.var 4) 56 []]]) [S.setAttr (T.var 4) 75 (T.bin (Bop.add) (T.attr (T.var 4) 75) (T.int 1))], S.ret (some (T.slice (T.attr (T.var 4) 70) (some (T.var 80)) (some (T.attr (T.var 4) 75))))] }
noncomputable def fi_PathScanner_qualified : FI := { params := [Tg.name 4], dflts := [], cells := [], body := [S.asg (Tg.name 11) (T.meth (T.var 4) 97 []), S.ife (T.or [T.cmp (Cop.eq) (T.var 11) (T.str []), T.cmp (Cop.ne) (T.meth (T.var 4) 56 []) (T.str [58]), T.cmp (Cop.eq) (T.meth (T.var 4) 56 [T.int 1]) (T.str [58])]) [S.ret (some (T.var 11))] [], S.setAttr (T.var 4) 75 (T.bin (Bop.add) (T.attr (T.var 4) 75) (T.int 1)), S.ife (T.cmp (Cop.eq) (T.meth (T.var 4) 56 []) (T.str [42])) [S.setAttr (T.var 4) 75 (T.bin (Bop.add) (T.attr (T.var 4) 75) (T.int 1)), S.ret (some (T.bin (Bop.add) (T.var 11) (T.str [58, 42])))] [], S.asg (Tg.name 12) (T.meth (T.var 4) 97 []), S.ife (T.cmp (Cop.eq) (T.var 12) (T.str [])) [S.raise (T.call (T.glob 6) [T.bin (Bop.add) (T.str [97, 32, 110, 97, 109, 101, 32, 105, 115, 32, 109, 105, 115, 115, 105, 110, 103, 32, 98, 101, 104, 105, 110, 100, 32, 97, 32, 99, 111, 108, 111, 110, 32, 97, 116, 32]) (T.bi (Bi.str) [T.attr (T.var 4) 75])])] [], S.ret (some (T.bin (Bop.add) (T.bin (Bop.add) (T.var 11) (T.str [58])) (T.var 12)))] }
noncomputable def fi_PathScanner_name : FI := { params := [Tg.name 4], dflts := [], cells := [], body := [S.asg (Tg.name 80) (T.attr (T.var 4) 75), S.ife (T.meth (T.var 4) 85 []) [S.asg (Tg.name 86) (T.meth (T.var 4) 97 []), S.ife (T.cmp (Cop.notIn) (T.var 86) (T.glob 65)) [S.raise (T.call (T.glob 6) [T.bin (Bop.add) (T.str [97, 110, 32, 111, 112, 101, 114, 97, 116, 111, 114, 32, 105, 115, 32, 109, 105, 115, 115, 105, 110, 103, 32, 97, 116, 32]) (T.bi (Bi.str) [T.var 80])])] [], S.expr (T.meth (T.var 4) 79 [T.str [111, 112, 101, 114, 97, 116, 111, 114], T.var 86, T.var 80]), S.ret none] [], S.asg (Tg.name 86) (T.meth (T.var 4) 95 []), S.asg (Tg.name 98) (T.attr (T.var 4) 75), S.expr (T.meth (T.var 4) 83 []), S.ife (T.and [T.cmp (Cop.eq) (T.meth (T.var 4) 56 []) (T.str [40]), T.not (T.meth (T.var 86) 96 [T.str [42]])]) [S.expr (T.meth (T.var 4) 79 [T.ite (T.cmp (Cop.in_) (T.var 86) (T.glob 66)) (T.str [107, 105, 110, 100]) (T.str [102, 117, 110, 99, 116, 105, 111, 110]), T.var 86, T.var 80])] [S.ife (T.and [T.cmp (Cop.eq) (T.meth (T.var 4) 56 []) (T.str [58]), T.cmp (Cop.eq) (T.meth (T.var 4) 56 [T.int 1]) (T.str [58])]) [S.expr (T.meth (T.var 4) 79 [T.str [97, 120, 105, 115], T.var 86, T.var 80])] [S.setAttr (T.var 4) 75 (T.var 98), S.expr (T.meth (T.var 4) 79 [T.str [110, 97, 109, 101], T.var 86, T.var 80])]]] }
noncomputable def fi_PathScanner_mark : FI := { params := [Tg.name 4], dflts := [], cells := [], body := [S.asg (Tg.name 80) (T.attr (T.var 4) 75), S.asg (Tg.name 70) (T.bin (Bop.add) (T.meth (T.var 4) 56 []) (T.meth (T.var 4) 56 [T.int 1])), S.ife (T.cmp (Cop.notIn) (T.var 70) (T.glob 62)) [S.asg (Tg.name 70) (T.meth (T.var 4) 56 [])] [], S.ife (T.cmp (Cop.in_) (T.var 70) (T.glob 63)) [S.expr (T.meth (T.var 4) 79 [T.str [111, 112, 101, 114, 97, 116, 111, 114], T.var 70, T.var 80])] [S.ife (T.cmp (Cop.in_) (T.var 70) (T.glob 64)) [S.expr (T.meth (T.var 4) 79 [T.str [115, 105, 103, 110], T.var 70, T.var 80])] [S.raise (T.call (T.glob 6) [T.bin (Bop.add) (T.str [97, 32, 115, 116, 114, 97, 110, 103, 101, 32, 115, 105, 103, 110, 32, 97, 116, 32]) (T.bi (Bi.str) [T.var 80])])]], S.setAttr (T.var 4) 75 (T.bin (Bop.add) (T.var 80) (T.bi (Bi.len) [T.var 70]))] }
noncomputable def fi_path_words : FI := { params := [Tg.name 70], dflts := [], cells := [], body := [S.ret (some (T.meth (T.call (T.glob 74) [T.var 70]) 82 []))] }
noncomputable def fi_number_value : FI := { params := [Tg.name 70], dflts := [], cells := [], body := [S.asg (Tg.tup [Tg.name 111, Tg.name 112, Tg.name 23]) (T.meth (T.var 70) 113 [T.str [46]]), S.ret (some (T.call (T.glob 16) [T.bi (Bi.int) [T.bin (Bop.add) (T.bin (Bop.add) (T.str [48]) (T.var 111)) (T.var 23)], T.bin (Bop.pow) (T.int 10) (T.bi (Bi.len) [T.var 23])]))] }
noncomputable def fi_PathReader___init__ : FI := { params := [Tg.name 4, Tg.name 116], dflts := [], cells := [], body := [S.setAttr (T.var 4) 116 (T.var 116), S.setAttr (T.var 4) 75 (T.int 0), S.setAttr (T.var 4) 117 (T.int 0)] }
noncomputable def fi_PathReader_here : FI := { params := [Tg.name 4], dflts := [], cells := [], body := [S.ret (some (T.idx (T.attr (T.var 4) 116) (T.attr (T.var 4) 75)))] }
noncomputable def fi_PathReader_go : FI := { params := [Tg.name 4], dflts := [], cells := [], body := [S.asg (Tg.name 86) (T.idx (T.attr (T.var 4) 116) (T.attr (T.var 4) 75)), S.ife (T.cmp (Cop.ne) (T.attr (T.var 86) 69) (T.str [101, 110, 100])) [S.setAttr (T.var 4) 75 (T.bin (Bop.add) (T.attr (T.var 4) 75) (T.int 1))] [], S.ret (some (T.var 86))] }
noncomputable def fi_PathReader_need : FI := { params := [Tg.name 4, Tg.name 70], dflts := [], cells := [], body := [S.ife (T.not (T.meth (T.meth (T.var 4) 118 []) 72 [T.var 70])) [S.expr (T.meth (T.var 4) 120 [T.bin (Bop.add) (T.var 70) (T.str [32, 105, 115, 32, 109, 105, 115, 115, 105, 110, 103])])] [], S.expr (T.meth (T.var 4) 119 [])] }
noncomputable def fi_PathReader_whole : FI := { params := [Tg.name 4], dflts := [], cells := [], body := [S.asg (Tg.name 76) (T.meth (T.var 4) 122 [T.int 1]), S.ife (T.cmp (Cop.ne) (T.attr (T.meth (T.var 4) 118 []) 69) (T.str [101, 110, 100])) [S.expr (T.meth (T.var 4) 120 [T.str [97, 32, 115, 116, 114, 97, 110, 103, 101, 32, 119, 111, 114, 100]])] [], S.ret (some (T.var 76))] }
noncomputable def fi_PathReader_expression : FI := { params := [Tg.name 4, Tg.name 123], dflts := [], cells := [], body := [S.setAttr (T.var 4) 117 (T.bin (Bop.add) (T.attr (T.var 4) 117) (T.int 1)), S.ife (T.cmp (Cop.gt) (T.attr (T.var 4) 117) (T.glob 100)) [S.expr (T.meth (T.var 4) 120 [T.str [116, 111, 111, 32, 100, 101, 101, 112]])] [], S.asg (Tg.name 76) (T.meth (T.var 4) 124 []), S.asg2 125 126 (T.meth (T.var 4) 125 []) (T.int 0), S.while (T.cmp (Cop.ge) (T.var 125) (T.var 123)) [S.asg (Tg.name 33) (T.attr (T.meth (T.var 4) 119 []) 70), S.asg (Tg.name 76) (T.call (T.glob 32) [T.var 33, T.var 76, T.meth (T.var 4) 122 [T.bin (Bop.add) (T.var 125) (T.int 1)]]), S.asg2 125 126 (T.meth (T.var 4) 125 []) (T.meth (T.var 4) 127 [T.var 126])], S.setAttr (T.var 4) 117 (T.bin (Bop.sub) (T.attr (T.var 4) 117) (T.int 1)), S.ret (some (T.var 76))] }
noncomputable def fi_PathReader_counted : FI := { params := [Tg.name 4, Tg.name 126], dflts := [], cells := [], body := [S.ife (T.cmp (Cop.ge) (T.var 126) (T.glob 100)) [S.expr (T.meth (T.var 4) 120 [T.str [116, 111, 111, 32, 109, 97, 110, 121, 32, 111, 112, 101, 114, 97, 116, 111, 114, 115]])] [], S.ret (some (T.bin (Bop.add) (T.var 126) (T.int 1)))] }
noncomputable def fi_PathReader_level : FI := { params := [Tg.name 4], dflts := [], cells := [], body := [S.asg (Tg.name 86) (T.meth (T.var 4) 118 []), S.ret (some (T.ite (T.cmp (Cop.eq) (T.attr (T.var 86) 69) (T.str [111, 112, 101, 114, 97, 116, 111, 114])) (T.meth (T.glob 102) 128 [T.attr (T.var 86) 70, T.int 0]) (T.int 0)))] }
noncomputable def fi_PathReader_negated : FI := { params := [Tg.name 4], dflts := [], cells := [], body := [S.asg (Tg.name 126) (T.int 0), S.while (T.meth (T.meth (T.var 4) 118 []) 73 [T.str [45]]) [S.expr (T.meth (T.var 4) 119 []), S.asg (Tg.name 126) (T.bin (Bop.add) (T.var 126) (T.int 1))], S.ife (T.cmp (Cop.gt) (T.var 126) (T.glob 100)) [S.expr (T.meth (T.var 4) 120 [T.str [116, 111, 111, 32, 100, 101, 101, 112]])] [], S.asg (Tg.name 76) (T.meth (T.var 4) 129 []), S.for (Tg.name 130) (T.bi (Bi.range) [T.var 126]) [S.asg (Tg.name 76) (T.call (T.glob 36) [T.var 76])], S.ret (some (T.var 76))] }
noncomputable def fi_PathReader_union : FI := { params := [Tg.name 4], dflts := [], cells := [], body := [S.asg2 76 126 (T.meth (T.var 4) 132 []) (T.int 0), S.while (T.meth (T.meth (T.var 4) 118 []) 73 [T.str [124]]) [S.expr (T.meth (T.var 4) 119 []), S.asg2 76 126 (T.call (T.glob 32) [T.str [124], T.var 76, T.meth (T.var 4) 132 []]) (T.meth (T.var 4) 127 [T.var 126])], S.ret (some (T.var 76))] }
noncomputable def fi_PathReader_path : FI := { params := [Tg.name 4], dflts := [], cells := [], body := [S.asg (Tg.name 86) (T.meth (T.var 4) 118 []), S.ife (T.meth (T.var 86) 73 [T.str [47]]) [S.expr (T.meth (T.var 4) 119 []), S.ret (some (T.call (T.glob 40) [T.str [114, 111, 111, 116], T.ite (T.meth (T.var 4) 133 []) (T.bi (Bi.tuple) [T.meth (T.var 4) 42 []]) (T.tup [])]))] [], S.ife (T.meth (T.var 86) 73 [T.str [47, 47]]) [S.expr (T.meth (T.var 4) 119 []), S.ret (some (T.call (T.glob 40) [T.str [114, 111, 111, 116], T.bin (Bop.add) (T.tup [T.call (T.glob 104) [T.str [100, 101, 115, 99, 101, 110, 100, 97, 110, 116, 45, 111, 114, 45, 115, 101, 108, 102]]]) (T.bi (Bi.tuple) [T.meth (T.var 4) 42 []])]))] [], S.ife (T.and [T.cmp (Cop.notIn) (T.attr (T.var 86) 69) (T.glob 103), T.not (T.meth (T.var 86) 72 [T.str [40]])]) [S.ret (some (T.call (T.glob 40) [T.none, T.bi (Bi.tuple) [T.meth (T.var 4) 42 []]]))] [], S.ret (some (T.meth (T.var 4) 134 []))] }
noncomputable def fi_PathReader_from_primary : FI := { params := [Tg.name 4], dflts := [], cells := [], body := [S.asg (Tg.name 76) (T.meth (T.var 4) 135 []), S.asg (Tg.name 39) (T.meth (T.var 4) 39 []), S.ife (T.cmp (Cop.ne) (T.var 39) (T.tup [])) [S.asg (Tg.name 76) (T.call (T.glob 37) [T.var 76, T.var 39])] [], S.ife (T.meth (T.meth (T.var 4) 118 []) 73 [T.str [47]]) [S.expr (T.meth (T.var 4) 119 []), S.ret (some (T.call (T.glob 40) [T.var 76, T.bi (Bi.tuple) [T.meth (T.var 4) 42 []]]))] [], S.ife (T.meth (T.meth (T.var 4) 118 []) 73 [T.str [47, 47]]) [S.expr (T.meth (T.var 4) 119 []), S.ret (some (T.call (T.glob 40) [T.var 76, T.bin (Bop.add) (T.tup [T.call (T.glob 104) [T.str [100, 101, 115, 99, 101, 110, 100, 97, 110, 116, 45, 111, 114, 45, 115, 101, 108, 102]]]) (T.bi (Bi.tuple) [T.meth (T.var 4) 42 []])]))] [], S.ret (some (T.var 76))] }
noncomputable def fi_PathReader_primary : FI := { params := [Tg.name 4], dflts := [], cells := [], body := [S.asg (Tg.name 86) (T.meth (T.var 4) 119 []), S.ife (T.cmp (Cop.eq) (T.attr (T.var 86) 69) (T.str [108, 105, 116, 101, 114, 97, 108])) [S.ret (some (T.call (T.glob 25) [T.attr (T.var 86) 70]))] [], S.ife (T.cmp (Cop.eq) (T.attr (T.var 86) 69) (T.str [110, 117, 109, 98, 101, 114])) [S.ret (some (T.call (T.glob 27) [T.call (T.glob 110) [T.attr (T.var 86) 70]]))] [], S.ife (T.cmp (Cop.eq) (T.attr (T.var 86) 69) (T.str [118, 97, 114, 105, 97, 98, 108, 101])) [S.ret (some (T.call (T.glob 28) [T.attr (T.var 86) 70]))] [], S.ife (T.cmp (Cop.eq) (T.attr (T.var 86) 69) (T.str [102, 117, 110, 99, 116, 105, 111, 110])) [S.ret (some (T.call (T.glob 30) [T.attr (T.var 86) 70, T.meth (T.var 4) 31 []]))] [], S.asg (Tg.name 76) (T.meth (T.var 4) 122 [T.int 1]), S.expr (T.meth (T.var 4) 121 [T.str [41]]), S.ret (some (T.var 76))] }
noncomputable def fi_PathReader_arguments : FI := { params := [Tg.name 4], dflts := [], cells := [], body := [S.expr (T.meth (T.var 4) 121 [T.str [40]]), S.asg (Tg.name 76) (T.lst []), S.ife (T.not (T.meth (T.meth (T.var 4) 118 []) 72 [T.str [41]])) [S.expr (T.meth (T.var 76) 81 [T.meth (T.var 4) 122 [T.int 1]]), S.while (T.meth (T.meth (T.var 4) 118 []) 72 [T.str [44]]) [S.expr (T.meth (T.var 4) 119 []), S.expr (T.meth (T.var 76) 81 [T.meth (T.var 4) 122 [T.int 1]])]] [], S.expr (T.meth (T.var 4) 121 [T.str [41]]), S.ret (some (T.bi (Bi.tuple) [T.var 76]))] }
noncomputable def fi_PathReader_predicates : FI := { params := [Tg.name 4], dflts := [], cells := [], body := [S.asg (Tg.name 76) (T.lst []), S.while (T.meth (T.meth (T.var 4) 118 []) 72 [T.str [91]]) [S.expr (T.meth (T.var 4) 119 []), S.expr (T.meth (T.var 76) 81 [T.meth (T.var 4) 122 [T.int 1]]), S.expr (T.meth (T.var 4) 121 [T.str [93]])], S.ret (some (T.bi (Bi.tuple) [T.var 76]))] }
noncomputable def fi_parse_path : FI := { params := [Tg.name 70], dflts := [], cells := [], body := [S.ret (some (T.meth (T.call (T.glob 115) [T.call (T.glob 99) [T.var 70]]) 111 []))] }
noncomputable def fi_expression_end : FI := { params := [Tg.name 70, Tg.name 75], dflts := [], cells := [], body := [S.asg (Tg.name 91) (T.str []), S.while (T.cmp (Cop.lt) (T.var 75) (T.bi (Bi.len) [T.var 70])) [S.asg (Tg.name 56) (T.idx (T.var 70) (T.var 75)), S.ife (T.cmp (Cop.ne) (T.var 91) (T.str [])) [S.ife (T.cmp (Cop.eq) (T.var 56) (T.var 91)) [S.asg (Tg.name 91) (T.str [])] []] [S.ife (T.cmp (Cop.in_) (T.var 56) (T.str [39, 34])) [S.asg (Tg.name 91) (T.var 56)] [S.ife (T.cmp (Cop.eq) (T.var 56) (T.str [125])) [S.ret (some (T.var 75))] [S.ife (T.cmp (Cop.eq) (T.var 56) (T.str [123])) [S.raise (T.call (T.glob 7) [T.bin (Bop.add) (T.str [97, 32, 98, 114, 97, 99, 101, 32, 119, 105, 116, 104, 105, 110, 32, 97, 110, 32, 101, 120, 112, 114, 101, 115, 115, 105, 111, 110, 58, 32]) (T.var 70)])] []]]], S.aug 75 (Bop.add) (T.int 1)], S.raise (T.call (T.glob 7) [T.bin (Bop.add) (T.str [97, 110, 32, 101, 120, 112, 114, 101, 115, 115, 105, 111, 110, 32, 119, 105, 116, 104, 111, 117, 116, 32, 97, 110, 32, 101, 110, 100, 58, 32]) (T.var 70)])] }
noncomputable def fi_split_avt : FI := { params := [Tg.name 70], dflts := [], cells := [], body := [S.asg (Tg.name 21) (T.lst []), S.asg (Tg.name 141) (T.str []), S.asg (Tg.name 75) (T.int 0), S.while (T.cmp (Cop.lt) (T.var 75) (T.bi (Bi.len) [T.var 70])) [S.asg (Tg.name 56) (T.idx (T.var 70) (T.var 75)), S.ife (T.and [T.cmp (Cop.in_) (T.var 56) (T.str [123, 125]), T.cmp (Cop.eq) (T.slice (T.var 70) (some (T.bin (Bop.add) (T.var 75) (T.int 1))) (some (T.bin (Bop.add) (T.var 75) (T.int 2)))) (T.var 56)]) [S.asg (Tg.name 141) (T.bin (Bop.add) (T.var 141) (T.var 56)), S.aug 75 (Bop.add) (T.int 2)] [S.ife (T.cmp (Cop.eq) (T.var 56) (T.str [123])) [S.asg (Tg.name 92) (T.call (T.glob 139) [T.var 70, T.bin (Bop.add) (T.var 75) (T.int 1)]), S.ife (T.cmp (Cop.ne) (T.var 141) (T.str [])) [S.expr (T.meth (T.var 21) 81 [T.tup [T.str [116, 101, 120, 116], T.var 141]])] [], S.expr (T.meth (T.var 21) 81 [T.tup [T.str [112, 97, 116, 104], T.slice (T.var 70) (some (T.bin (Bop.add) (T.var 75) (T.int 1))) (some (T.var 92))]]), S.asg (Tg.name 141) (T.str []), S.asg (Tg.name 75) (T.bin (Bop.add) (T.var 92) (T.int 1))] [S.ife (T.cmp (Cop.eq) (T.var 56) (T.str [125])) [S.raise (T.call (T.glob 7) [T.bin (Bop.add) (T.str [97, 32, 98, 114, 97, 99, 101, 32, 116, 104, 97, 116, 32, 101, 110, 100, 115, 32, 110, 111, 116, 104, 105, 110, 103, 58, 32]) (T.var 70)])] [S.asg (Tg.name 141) (T.bin (Bop.add) (T.var 141) (T.var 56)), S.aug 75 (Bop.add) (T.int 1)]]]], S.ife (T.cmp (Cop.ne) (T.var 141) (T.str [])) [S.expr (T.meth (T.var 21) 81 [T.tup [T.str [116, 101, 120, 116], T.var 141]])] [], S.ret (some (T.var 21))] }
noncomputable def fi_filled : FI := { params := [Tg.name 21, Tg.name 143], dflts := [], cells := [], body := [S.asg (Tg.name 76) (T.lst []), S.for (Tg.tup [Tg.name 69, Tg.name 144]) (T.var 21) [S.expr (T.meth (T.var 76) 81 [T.ite (T.cmp (Cop.eq) (T.var 69) (T.str [116, 101, 120, 116])) (T.var 144) (T.call (T.var 143) [T.var 144])])], S.ret (some (T.meth (T.str []) 145 [T.var 76]))] }
noncomputable def fi_read_avt : FI := { params := [Tg.name 70], dflts := [], cells := [], body := [S.asg (Tg.name 76) (T.lst []), S.for (Tg.tup [Tg.name 69, Tg.name 144]) (T.call (T.glob 140) [T.var 70]) [S.expr (T.meth (T.var 76) 81 [T.tup [T.var 69, T.ite (T.cmp (Cop.eq) (T.var 69) (T.str [116, 101, 120, 116])) (T.var 144) (T.call (T.glob 138) [T.var 144])]])], S.ret (some (T.var 76))] }
noncomputable def fi__law_pool : FI := { params := [Tg.name 148, Tg.name 149], dflts := [], cells := [], body := [S.asg (Tg.name 150) (T.int 0), S.ife (T.cmp (Cop.lt) (T.var 149) (T.bi (Bi.len) [T.var 148])) [S.asg (Tg.name 150) (T.idx (T.var 148) (T.var 149))] [], S.asg (Tg.name 151) (T.bi (Bi.max) [T.bi (Bi.int) [T.var 150], T.bi (Bi.int) [T.bin (Bop.sub) (T.neg (T.int 1)) (T.var 150)]]), S.asg (Tg.name 153) (T.bin (Bop.mod) (T.bi (Bi.int) [T.bin (Bop.mul) (T.bin (Bop.add) (T.bin (Bop.add) (T.bin (Bop.add) (T.bin (Bop.mod) (T.bi (Bi.int) [T.var 151]) (T.int 2147483629)) (T.bin (Bop.mul) (T.bin (Bop.mul) (T.int 7919) (T.var 149)) (T.var 149))) (T.bin (Bop.mul) (T.int 31) (T.var 149))) (T.int 17)) (T.int 48271)]) (T.int 2147483647)), S.ret (some (T.lst [T.bin (Bop.mul) (T.var 151) (T.bi (Bi.int) [T.cmp (Cop.ge) (T.var 151) (T.bin (Bop.pow) (T.int 10) (T.int 18))]), T.var 153]))] }
noncomputable def fi__law_take : FI := { params := [Tg.name 155, Tg.name 17], dflts := [], cells := [], body := [S.ife (T.cmp (Cop.gt) (T.idx (T.var 155) (T.int 0)) (T.int 0)) [S.asg (Tg.name 156) (T.bin (Bop.mod) (T.bi (Bi.int) [T.idx (T.var 155) (T.int 0)]) (T.var 17)), S.setIdx (T.var 155) (T.int 0) (T.bin (Bop.fdiv) (T.idx (T.var 155) (T.int 0)) (T.var 17)), S.ret (some (T.var 156))] [], S.setIdx (T.var 155) (T.int 1) (T.bin (Bop.mod) (T.bi (Bi.int) [T.bin (Bop.add) (T.bin (Bop.mul) (T.idx (T.var 155) (T.int 1)) (T.int 39373)) (T.int 7)]) (T.int 2147483647)), S.ret (some (T.bin (Bop.mod) (T.bi (Bi.int) [T.bin (Bop.fdiv) (T.bin (Bop.mod) (T.bi (Bi.int) [T.bin (Bop.mul) (T.idx (T.var 155) (T.int 1)) (T.idx (T.var 155) (T.int 1))]) (T.int 2147483629)) (T.int 32)]) (T.var 17)))] }
noncomputable def fi__law_one : FI := { params := [Tg.name 155, Tg.name 158], dflts := [], cells := [], body := [S.ret (some (T.idx (T.var 158) (T.call (T.glob 154) [T.var 155, T.bi (Bi.len) [T.var 158]])))] }
noncomputable def fi__law_literal : FI := { params := [Tg.name 155], dflts := [], cells := [], body := [S.asg (Tg.name 70) (T.call (T.glob 157) [T.var 155, T.lst [T.str [], T.str [97], T.str [125], T.str [123, 98, 125], T.str [105, 116, 39, 115], T.str [115, 97, 121, 32, 34, 123, 34], T.str [120, 32, 121]]]), S.asg (Tg.name 91) (T.ite (T.cmp (Cop.in_) (T.str [34]) (T.var 70)) (T.str [39]) (T.ite (T.cmp (Cop.in_) (T.str [39]) (T.var 70)) (T.str [34]) (T.call (T.glob 157) [T.var 155, T.lst [T.str [39], T.str [34]]]))), S.ret (some (T.tup [T.bin (Bop.add) (T.bin (Bop.add) (T.var 91) (T.var 70)) (T.var 91), T.var 70]))] }
noncomputable def fi__law_expression : FI := { params := [Tg.name 155], dflts := [], cells := [], body := [S.asg (Tg.name 161) (T.call (T.glob 154) [T.var 155, T.int 4]), S.ife (T.cmp (Cop.eq) (T.var 161) (T.int 0)) [S.asg2 9 10 (T.call (T.glob 154) [T.var 155, T.int 90]) (T.call (T.glob 154) [T.var 155, T.int 90]), S.ret (some (T.tup [T.bin (Bop.add) (T.bin (Bop.add) (T.bi (Bi.str) [T.var 9]) (T.call (T.glob 157) [T.var 155, T.lst [T.str [32, 43, 32], T.str [43]]])) (T.bi (Bi.str) [T.var 10]), T.bi (Bi.str) [T.bin (Bop.add) (T.var 9) (T.var 10)]]))] [], S.ife (T.cmp (Cop.eq) (T.var 161) (T.int 1)) [S.ret (some (T.call (T.glob 159) [T.var 155]))] [], S.ife (T.cmp (Cop.eq) (T.var 161) (T.int 2)) [S.asg2 9 10 (T.call (T.glob 159) [T.var 155]) (T.call (T.glob 159) [T.var 155]), S.ret (some (T.tup [T.bin (Bop.add) (T.bin (Bop.add) (T.bin (Bop.add) (T.bin (Bop.add) (T.str [99, 111, 110, 99, 97, 116, 40]) (T.idx (T.var 9) (T.int 0))) (T.str [44, 32])) (T.idx (T.var 10) (T.int 0))) (T.str [41]), T.bin (Bop.add) (T.idx (T.var 9) (T.int 1)) (T.idx (T.var 10) (T.int 1))]))] [], S.asg (Tg.name 15) (T.call (T.glob 154) [T.var 155, T.int 900]), S.ret (some (T.tup [T.bin (Bop.add) (T.bin (Bop.add) (T.call (T.glob 157) [T.var 155, T.lst [T.str [32], T.str []]]) (T.bi (Bi.str) [T.var 15])) (T.str [32]), T.bi (Bi.str) [T.var 15]]))] }
noncomputable def fi__law_parts : FI := { params := [Tg.name 155], dflts := [], cells := [], body := [S.asg (Tg.name 76) (T.lst []), S.for (Tg.name 130) (T.bi (Bi.range) [T.call (T.glob 154) [T.var 155, T.int 7]]) [S.ife (T.cmp (Cop.eq) (T.call (T.glob 154) [T.var 155, T.int 2]) (T.int 0)) [S.asg (Tg.name 141) (T.call (T.glob 157) [T.var 155, T.lst [T.str [], T.str [97], T.str [123], T.str [125], T.str [123, 125], T.str [39], T.str [125, 125, 123], T.str [32, 98, 32, 34], T.str [120, 123, 121, 125, 122]]]), S.expr (T.meth (T.var 76) 81 [T.tup [T.str [116, 101, 120, 116], T.repl (T.repl (T.var 141) 123 [123, 123]) 125 [125, 125], T.var 141, T.var 141]])] [S.asg (Tg.tup [Tg.name 164, Tg.name 26]) (T.call (T.glob 160) [T.var 155]), S.expr (T.meth (T.var 76) 81 [T.tup [T.str [112, 97, 116, 104], T.bin (Bop.add) (T.bin (Bop.add) (T.str [123]) (T.var 164)) (T.str [125]), T.var 26, T.var 164]])]], S.ret (some (T.var 76))] }
noncomputable def fi__law_due : FI := { params := [Tg.name 166], dflts := [], cells := [], body := [S.asg (Tg.name 167) (T.lst []), S.for (Tg.tup [Tg.name 69, Tg.name 164, Tg.name 26, Tg.name 23]) (T.var 166) [S.ife (T.and [T.cmp (Cop.eq) (T.var 69) (T.str [116, 101, 120, 116]), T.cmp (Cop.ne) (T.var 167) (T.lst []), T.cmp (Cop.eq) (T.idx (T.idx (T.var 167) (T.neg (T.int 1))) (T.int 0)) (T.str [116, 101, 120, 116])]) [S.setIdx (T.var 167) (T.neg (T.int 1)) (T.tup [T.str [116, 101, 120, 116], T.bin (Bop.add) (T.idx (T.idx (T.var 167) (T.neg (T.int 1))) (T.int 1)) (T.var 23)])] [S.ife (T.or [T.cmp (Cop.eq) (T.var 69) (T.str [112, 97, 116, 104]), T.cmp (Cop.ne) (T.var 23) (T.str [])]) [S.expr (T.meth (T.var 167) 81 [T.tup [T.var 69, T.var 23]])] []]], S.ret (some (T.var 167))] }
noncomputable def fi__law_refused : FI := { params := [Tg.name 70], dflts := [], cells := [], body := [S.try (T.call (T.glob 140) [T.var 70]) 7 true, S.ret (some (T.bool false))] }
noncomputable def fi__law_wrong_right : FI := { params := [Tg.name 155, Tg.cel 70], dflts := [], cells := [70], body := [S.asg (Tg.name 170) (T.lst [T.str [123], T.str [125], T.str [123, 97], T.str [97, 125, 98], T.str [123, 97, 123, 98, 125, 125], T.str [123, 39, 97, 125], T.str [123, 34, 125], T.str [125, 97], T.str [123, 97, 123], T.str [123, 125, 123], T.str [123, 39, 39]]), S.ife (T.cmp (Cop.ne) (T.comp (T.var 9) (Tg.name 9) (T.var 170) [T.not (T.call (T.glob 168) [T.bin (Bop.add) (T.cell 70) (T.var 9)])] [70]) (T.lst [])) [S.ret (some (T.bool false))] [], S.asg (Tg.name 171) (T.lst [T.tup [T.str [116, 101, 120, 116], T.str [123]], T.tup [T.str [112, 97, 116, 104], T.str [97]], T.tup [T.str [116, 101, 120, 116], T.str [125]]]), S.ret (some (T.and [T.cmp (Cop.eq) (T.call (T.glob 140) [T.str [123, 123, 123, 97, 125, 125, 125]]) (T.var 171), T.cmp (Cop.eq) (T.call (T.glob 140) [T.str [123, 125]]) (T.lst [T.tup [T.str [112, 97, 116, 104], T.str []]]), T.cmp (Cop.eq) (T.call (T.glob 140) [T.str []]) (T.lst [])]))] }
noncomputable def fi_law : FI := { params := [Tg.name 148], dflts := [], cells := [173], body := [S.asg (Tg.name 155) (T.call (T.glob 147) [T.var 148, T.int 0]), S.asg (Tg.name 166) (T.call (T.glob 162) [T.var 155]), S.asg2 70 167 (T.meth (T.str []) 145 [T.comp (T.idx (T.var 23) (T.int 1)) (Tg.name 23) (T.var 166) [] []]) (T.call (T.glob 165) [T.var 166]), S.ife (T.cmp (Cop.ne) (T.call (T.glob 140) [T.var 70]) (T.var 167)) [S.ret (some (T.bool false))] [], S.asg (Tg.cel 173) (T.lst []), S.junk, S.asg (Tg.name 174) (T.meth (T.str []) 145 [T.comp (T.ite (T.cmp (Cop.eq) (T.var 69) (T.str [116, 101, 120, 116])) (T.var 23) (T.bin (Bop.add) (T.bin (Bop.add) (T.str [60]) (T.var 23)) (T.str [62]))) (Tg.tup [Tg.name 69, Tg.name 23]) (T.var 167) [] []]), S.ife (T.or [T.cmp (Cop.ne) (T.call (T.glob 142) [T.var 167, T.var 143]) (T.var 174), T.cmp (Cop.ne) (T.cell 173) (T.comp (T.var 23) (Tg.tup [Tg.name 69, Tg.name 23]) (T.var 167) [T.cmp (Cop.eq) (T.var 69) (T.str [112, 97, 116, 104])] [])]) [S.ret (some (T.bool false))] [], S.asg (Tg.name 175) (T.call (T.glob 146) [T.var 70]), S.asg (Tg.name 176) (T.comp (T.tup [T.var 69, T.ite (T.cmp (Cop.eq) (T.var 69) (T.str [116, 101, 120, 116])) (T.var 23) (T.str [])]) (Tg.tup [Tg.name 69, Tg.name 23]) (T.var 167) [] []), S.ife (T.cmp (Cop.ne) (T.comp (T.tup [T.var 69, T.ite (T.cmp (Cop.eq) (T.var 69) (T.str [116, 101, 120, 116])) (T.var 23) (T.str [])]) (Tg.tup [Tg.name 69, Tg.name 23]) (T.var 175) [] []) (T.var 176)) [S.ret (some (T.bool false))] [], S.asg (Tg.name 177) (T.comp (T.idx (T.var 9) (T.int 1)) (Tg.name 9) (T.var 175) [T.cmp (Cop.eq) (T.idx (T.var 9) (T.int 0)) (T.str [112, 97, 116, 104])] []), S.forZip (Tg.tup [Tg.name 178, Tg.tup [Tg.name 69, Tg.name 164, Tg.name 26, Tg.name 23]]) (T.var 177) (T.comp (T.var 9) (Tg.name 9) (T.var 166) [T.cmp (Cop.eq) (T.idx (T.var 9) (T.int 0)) (T.str [112, 97, 116, 104])] []) [S.ife (T.and [T.cmp (Cop.in_) (T.slice (T.var 23) none (some (T.int 1))) (T.lst [T.str [39], T.str [34]]), T.cmp (Cop.ne) (T.meth (T.var 178) 24 []) (T.tup [T.str [108, 105, 116, 101, 114, 97, 108], T.var 26])]) [S.ret (some (T.bool false))] [], S.ife (T.and [T.cmp (Cop.eq) (T.meth (T.var 23) 180 [T.str [32]]) (T.var 26), T.cmp (Cop.ne) (T.meth (T.var 178) 24 []) (T.tup [T.str [110, 117, 109, 98, 101, 114], T.tup [T.bi (Bi.int) [T.var 26], T.int 1]])]) [S.ret (some (T.bool false))] []], S.ret (some (T.call (T.glob 169) [T.var 155, T.var 70]))] }
noncomputable def fi_Literal___init__ : FI := { params := [Tg.name 4, Tg.name 26], dflts := [], cells := [], body := [S.setAttr (T.var 4) 26 (T.var 26)] }
noncomputable def fi_Literal_row : FI := { params := [Tg.name 4], dflts := [], cells := [], body := [S.ret (some (T.tup [T.str [108, 105, 116, 101, 114, 97, 108], T.attr (T.var 4) 26]))] }
noncomputable def fi_NumberNode___init__ : FI := { params := [Tg.name 4, Tg.name 26], dflts := [], cells := [], body := [S.setAttr (T.var 4) 26 (T.var 26)] }
noncomputable def fi_NumberNode_row : FI := { params := [Tg.name 4], dflts := [], cells := [], body := [S.ret (some (T.tup [T.str [110, 117, 109, 98, 101, 114], T.attr (T.var 4) 26]))] }
noncomputable def fi_Call___init__ : FI := { params := [Tg.name 4, Tg.name 29, Tg.name 31], dflts := [], cells := [], body := [S.setAttr (T.var 4) 29 (T.var 29), S.setAttr (T.var 4) 31 (T.var 31)] }
noncomputable def fi_Binary___init__ : FI := { params := [Tg.name 4, Tg.name 33, Tg.name 34, Tg.name 35], dflts := [], cells := [], body := [S.setAttr (T.var 4) 33 (T.var 33), S.setAttr (T.var 4) 34 (T.var 34), S.setAttr (T.var 4) 35 (T.var 35)] }
noncomputable def fi_tell : FI := { params := [Tg.name 164], dflts := [], cells := [], body := [S.expr (T.meth (T.cell 173) 81 [T.var 164]), S.ret (some (T.bin (Bop.add) (T.bin (Bop.add) (T.str [60]) (T.var 164)) (T.str [62])))] }
noncomputable def levels : List (List Nat × V) := [([111, 114], V.int 1), ([97, 110, 100], V.int 2), ([61], V.int 3), ([33, 61], V.int 3), ([60], V.int 4), ([60, 61], V.int 4), ([62], V.int 4), ([62, 61], V.int 4), ([43], V.int 5), ([45], V.int 5), ([42], V.int 6), ([100, 105, 118], V.int 6), ([109, 111, 100], V.int 6)]
noncomputable def globL : List (Nat × V) := [(7, V.top 56), (8, V.top 65), (16, V.top 80), (25, V.top 109), (27, V.top 137), (30, V.top 193), (32, V.top 221), (46, V.str [32, 9, 10, 13]), (49, V.int 128), (55, V.top 368), (57, V.top 375), (58, V.top 382), (60, V.top 389), (61, V.str [48, 49, 50, 51, 52, 53, 54, 55, 56, 57]), (62, V.tup [V.str [47, 47], V.str [33, 61], V.str [60, 61], V.str [62, 61], V.str [46, 46], V.str [58, 58]]), (63, V.tup [V.str [47], V.str [47, 47], V.str [124], V.str [43], V.str [45], V.str [61], V.str [33, 61], V.str [60], V.str [60, 61], V.str [62], V.str [62, 61]]), (64, V.tup [V.str [40], V.str [41], V.str [91], V.str [93], V.str [46], V.str [46, 46], V.str [64], V.str [44], V.str [58, 58]]), (65, V.tup [V.str [97, 110, 100], V.str [111, 114], V.str [109, 111, 100], V.str [100, 105, 118]]), (66, V.tup [V.str [99, 111, 109, 109, 101, 110, 116], V.str [116, 101, 120, 116], V.str [112, 114, 111, 99, 101, 115, 115, 105, 110, 103, 45, 105, 110, 115, 116, 114, 117, 99, 116, 105, 111, 110], V.str [110, 111, 100, 101]]), (67, V.tup [V.str [64], V.str [58, 58], V.str [40], V.str [91], V.str [44]]), (68, V.top 433), (74, V.top 553), (99, V.top 564), (100, V.int 50), (102, V.top 566), (103, V.tup [V.str [108, 105, 116, 101, 114, 97, 108], V.str [110, 117, 109, 98, 101, 114], V.str [118, 97, 114, 105, 97, 98, 108, 101], V.str [102, 117, 110, 99, 116, 105, 111, 110]]), (110, V.top 588), (115, V.top 745), (138, V.top 756), (139, V.top 763), (140, V.top 770), (142, V.top 777), (146, V.top 784), (147, V.top 791), (154, V.top 798), (157, V.top 805), (159, V.top 812), (160, V.top 819), (162, V.top 826), (165, V.top 833), (168, V.top 840), (169, V.top 845), (172, V.top 850)]
noncomputable def fnL : List (Nat × FI) := [(65, fi_common_divisor), (80, fi_number_of), (368, fi_is_space), (375, fi_is_small_letter), (382, fi_is_name_start), (389, fi_is_name_char), (409, fi_Word___init__), (416, fi_Word_is_sign), (423, fi_Word_is_operator), (451, fi_PathScanner___init__), (459, fi_PathScanner_sign), (466, fi_PathScanner_add), (473, fi_PathScanner_run), (480, fi_PathScanner_skip), (487, fi_PathScanner_is_behind_operand), (494, fi_PathScanner_step), (501, fi_PathScanner_number), (508, fi_PathScanner_figures), (515, fi_PathScanner_literal), (529, fi_PathScanner_plain_name), (536, fi_PathScanner_qualified), (543, fi_PathScanner_name), (550, fi_PathScanner_mark), (564, fi_path_words), (588, fi_number_value), (602, fi_PathReader___init__), (609, fi_PathReader_here), (616, fi_PathReader_go), (630, fi_PathReader_need), (637, fi_PathReader_whole), (644, fi_PathReader_expression), (651, fi_PathReader_counted), (658, fi_PathReader_level), (665, fi_PathReader_negated), (672, fi_PathReader_union), (679, fi_PathReader_path), (686, fi_PathReader_from_primary), (693, fi_PathReader_primary), (700, fi_PathReader_arguments), (742, fi_PathReader_predicates), (756, fi_parse_path), (763, fi_expression_end), (770, fi_split_avt), (777, fi_filled), (784, fi_read_avt), (791, fi__law_pool), (798, fi__law_take), (805, fi__law_one), (812, fi__law_literal), (819, fi__law_expression), (826, fi__law_parts), (833, fi__law_due), (840, fi__law_refused), (845, fi__law_wrong_right), (850, fi_law), (99, fi_Literal___init__), (106, fi_Literal_row), (127, fi_NumberNode___init__), (134, fi_NumberNode_row), (183, fi_Call___init__), (211, fi_Binary___init__)]
noncomputable def initL : List (Nat × Nat) := [(109, 99), (137, 127), (193, 183), (221, 211), (433, 409), (553, 451), (745, 602)]
noncomputable def methL : List (Nat × List (Nat × Nat)) := [(109, [(24, 106)]), (137, [(24, 134)]), (193, []), (221, []), (433, [(72, 416), (73, 423)]), (553, [(56, 459), (79, 466), (82, 473), (83, 480), (85, 487), (84, 494), (15, 501), (90, 508), (87, 515), (97, 529), (95, 536), (29, 543), (89, 550)]), (745, [(118, 609), (119, 616), (121, 630), (111, 637), (122, 644), (127, 651), (125, 658), (124, 665), (129, 672), (132, 679), (134, 686), (135, 693), (31, 700), (39, 742)])]
noncomputable def fldL : List (Nat × List Nat) := [(109, [26]), (137, [26]), (193, [29, 31]), (221, [33, 34, 35]), (433, [69, 70, 71]), (553, [70, 75, 76]), (745, [116, 75, 117])]
noncomputable def PT : Tab where
  glob x := lk x globL
  fn a := lk a fnL
  nested k := if Nat.beq k 0 then some fi_tell else none
  init a := lk a initL
  meth c f := (lk c methL).bind fun l => lk f l
  exc c := Nat.beq c 56
  dict a := if Nat.beq a 566 then some levels else none
  fld c f := match lk c fldL with | some l => l.any (Nat.beq f) | none => false
end Mine.Internal
end

section
open PySem PySem.W PyProof.Rows PySem.Calls
set_option autoImplicit false
set_option maxRecDepth 100000
namespace Mine.Internal

theorem setGen_toks (s : Shared) (g : Nat) (x : GenState) : (s.setGen g x).toks = s.toks := rfl

theorem runs_toks {M : Model} {Γ : Ctx} {p : Pos} {t : Sem Fin} {fs : List Frame} {s s' : Shared} {e : End} (h : Runs M Γ p t fs s e s') : s.toks ≤ s'.toks := by
  induction h <;> (try simp only [setGen_toks] at *) <;> first | exact om23 ‹_› ‹_› | omega

theorem wp_toks {α : Type} {M : Model} {Γ : Ctx} {n : Nat} (t : Sem α) : ∀ (p : Pos) (s : Shared) (Q : α → Pos → Shared → Prop) (E : Value → Pos → Shared → Prop),
    n ≤ s.toks → Sem.wp M Γ t Q E p s → Sem.wp M Γ t (fun a p s' => n ≤ s'.toks ∧ Q a p s') (fun e p s' => n ≤ s'.toks ∧ E e p s') p s := by
  induction t with
  | pure a => intro p s Q E hn h; exact ⟨hn, h⟩
  | raise e => intro p s Q E hn h; exact ⟨hn, h⟩
  | unsupported w => intro p s Q E hn h; exact h
  | finish w => intro p s Q E hn h; exact h
  | rule _ k ih => intro p s Q E hn h; exact ih () p s Q E hn h
  | «at» p' k ih => intro p s Q E hn h; exact ih () p' s Q E hn h
  | load a q k ih => intro p s Q E hn h; obtain ⟨o, e, h⟩ := h; exact ⟨o, e, ih o p s Q E hn h⟩
  | update a q f k ih => intro p s Q E hn h; exact ⟨h.1, ih () p _ Q E hn h.2⟩
  | alloc o k ih => intro p s Q E hn h; exact ih _ p _ Q E hn h
  | loadIfAlive a k ih => intro p s Q E hn h; exact ih _ p _ Q E hn h
  | point _ k ih => intro p s Q E hn h; exact ih _ p _ Q E hn h
  | register a k ih => intro p s Q E hn h; exact h
  | fresh k ih => intro p s Q E hn h; exact ih _ p _ Q E (Nat.le_succ_of_le hn) h
  | ask k ih => intro p s Q E hn h; exact ih _ p _ Q E hn h
  | choose src m k ih => intro p s Q E hn h; exact ⟨h.1, ih _ p _ Q E hn h.2⟩
  | os q _ k ih => intro p s Q E hn h; exact ih _ p _ Q E hn h
  | call c hd g l k ih =>
    intro p s Q E hn h
    obtain ⟨r, s', hr, h⟩ := h
    exact ⟨r, s', hr, ih r p s' Q E (Nat.le_trans hn (runs_toks hr)) h⟩
  | handled o k ih => intro p s Q E hn h; exact ih _ p _ Q E hn h
  | newGen c k ih => intro p s Q E hn h; exact ih _ p _ Q E hn h
  | genState g k ih => intro p s Q E hn h; obtain ⟨o, e, h⟩ := h; exact ⟨o, e, ih _ p s Q E hn h⟩
  | resume g r l k ih =>
    intro p s Q E hn h
    obtain ⟨res, s', hw, h⟩ := h
    refine ⟨res, s', hw, ih res p s' Q E (Nat.le_trans hn ?_) h⟩
    unfold Wakes at hw
    split at hw
    · exact hw.elim
    · split at hw
      · obtain ⟨e₁, s₁, hr, zz, zz, rfl⟩ := hw
        exact (show s.toks ≤ s₁.toks from runs_toks (s := s.setGen g .running) hr)
      · obtain ⟨zz, rfl⟩ := hw; exact Nat.le_refl _
      · obtain ⟨zz, rfl⟩ := hw; exact Nat.le_refl _
    · obtain ⟨e₁, s₁, hr, zz, zz, rfl⟩ := hw
      exact (show s.toks ≤ s₁.toks from runs_toks (s := s.setGen g .running) hr)
    · obtain ⟨zz, rfl⟩ := hw; exact Nat.le_refl _
    · obtain ⟨zz, rfl⟩ := hw; exact Nat.le_refl _
  | yield v g l k ih => intro p s Q E hn h; exact h
  | stack k ih => intro p s Q E hn h; exact ih _ p _ Q E hn h
  | fork c k ih => intro p s Q E hn h; exact h
  | thread k ih => intro p s Q E hn h; exact ih _ p _ Q E hn h
  | await a t d l k ih => intro p s Q E hn h; exact h

theorem wpAny_tk {α : Type} {M : Model} {A : Around} {t : Sem α} {Q : α → Shared → Prop} {E : Value → Shared → Prop} {s : Shared}
    (h : wpAny M A t (fun a s' => s.toks ≤ s'.toks → Q a s') (fun e s' => s.toks ≤ s'.toks → E e s') s) : wpAny M A t Q E s := fun Γ p hΓ =>
  Sem.wp_mono M Γ t (fun zz zz zz x => x.2 x.1) (fun zz zz zz x => x.2 x.1) p s (wp_toks t p s _ _ (Nat.le_refl _) (h Γ p hΓ))
end Mine.Internal
end

section
open PySem PySem.W PyProof.Rows PySem.Calls
set_option autoImplicit false
set_option maxRecDepth 100000
namespace Mine.Internal

noncomputable abbrev Rho := List (Addr × Addr)

structure Gd where
  K : Frag
  sa : Addr
  sv : List Value
  bad : Addr → Prop     -- a tuple that is written over: no value of ours

section
variable (G : Gd)
mutual
noncomputable def VR (h : Heap) (ρ : Rho) : V → Value → Prop
  | .none, w => w = .none
  | .bool b, w => w = .bool b
  | .int i, w => ∃ t, w = .int i t
  | .str l, w => ∃ t, w = .str ⟨l.toArray⟩ t
  | .tup vs, w => ∃ a ws, w = .ref a ∧ (IsTup h a ws.toArray ∧ ¬ G.bad a) ∧ VRs h ρ vs ws
  | .lst vs, w => w = .ref G.sa ∧ VRs h ρ vs G.sv
  | .rng n, w => ∃ a t u v, w = .ref a ∧ IsRange h a 0 n 1 t u v
  | .ref n, w => ∃ p, ρ[n]? = some p ∧ w = .ref p.1
  | .top a, w => w = .ref a
noncomputable def VRs (h : Heap) (ρ : Rho) : List V → List Value → Prop
  | [], [] => True
  | v :: vs, w :: ws => VR h ρ v w ∧ VRs h ρ vs ws
  | _, _ => False
end

noncomputable def FRel (h : Heap) (ρ : Rho) : List (Nat × V) → List DictEntry → Prop
  | [], [] => True
  | (x, v) :: fs, e :: es => (∃ s t, nm[x]? = some s ∧ e.key = .str s t ∧ VR G h ρ v e.val) ∧ FRel h ρ fs es
  | _, _ => False

noncomputable def CelRel (ρ : Rho) (cel : List (Nat × Nat)) (cs : List (Str × Addr)) : Prop :=
  ∀ x n, lk x cel = some n → ∃ s p, nm[x]? = some s ∧ ρ[n]? = some p ∧ cs.lookup s = some p.2

structure Clo where
  kOf : Nat → FuncData → Prop

noncomputable def OR (kOf : Nat → FuncData → Prop) (h : Heap) (ρ : Rho) : O → Addr × Addr → Prop
  | .list vs, p => p.1 = p.2 ∧ ∃ ws n, h.get? p.2 = some (listOf ws n) ∧ VRs G h ρ vs ws.toList
  | .inst C fs, p => h.get? p.1 = some (instObj C p.2) ∧ ∃ es n, h.get? p.2 = some (dictOf es n) ∧ FRel G h ρ fs es
  | .cell v, p => p.1 = p.2 ∧ ∃ o w, h.get? p.2 = some o ∧ o.data = .cell w ∧ (match v, w with | none, none => True | some v, some w => VR G h ρ v w | _, _ => False)
  | .clos k cs, p => p.1 = p.2 ∧ ∃ o fd, h.get? p.2 = some o ∧ o.cls = .type "function" ∧ o.data = .func fd ∧ kOf k fd ∧ h.CodeRec fd.code fd.qualname ∧ CelRel ρ cs fd.closure

structure Rel (kOf : Nat → FuncData → Prop) (h₀ : Heap) (fa : List Addr) (h : Heap) (ρ : Rho) (σ : Hp) : Prop where
  len : ρ.length = σ.length
  obj : ∀ (n : Nat) (o : O), σ[n]? = some o → ∃ p, ρ[n]? = some p ∧ OR G kOf h ρ o p
  new : ∀ p ∈ ρ, h₀.get? p.2 = none ∧ p.2 ∉ fa
  nod : (ρ.map (·.2)).Nodup
  mutF : ∀ b ∈ fa, ∃ o, h.get? b = some o ∧ ∃ es n, o.data = .dict es n

structure Ext (fa : List Addr) (h : Heap) (ρ : Rho) (h' : Heap) (ρ' : Rho) : Prop where
  pre : ∃ t, ρ' = ρ ++ t ∧ ∀ p ∈ t, h.get? p.2 = none
  keep : ∀ b o, h.get? b = some o → (∀ p ∈ ρ, p.2 ≠ b) → b ∉ fa → h'.get? b = some o
end

noncomputable def Mut (o : Obj) : Prop := (o.cls = .type "list" ∧ ∃ ws n, o.data = .seq ws n) ∨ (∃ es n, o.data = .dict es n) ∨ (∃ w, o.data = .cell w) ∨ ∃ fd, o.data = .func fd
theorem Mut.notTup {o : Obj} (x : Mut o) {vs : Array Value} {n : Nat} (hc : o.cls = .type "tuple") (hd : o.data = .seq vs n) : False := by
  rcases x with ⟨c, _⟩ | ⟨_, _, q⟩ | ⟨_, q⟩ | ⟨_, q⟩
  · rw [hc] at c; exact absurd c (by decide)
  all_goals (rw [hd] at q; cases q)
theorem Mut.notFields {o : Obj} (x : Mut o) {vs : Array Value} (hd : o.data = .fields vs) : False := by
  rcases x with ⟨_, _, _, q⟩ | ⟨_, _, q⟩ | ⟨_, q⟩ | ⟨_, q⟩
  all_goals (rw [hd] at q; cases q)
theorem Mut.notPlain {o : Obj} (x : Mut o) (hd : o.data = .plain) : False := by
  rcases x with ⟨_, _, _, q⟩ | ⟨_, _, q⟩ | ⟨_, q⟩ | ⟨_, q⟩
  all_goals (rw [hd] at q; cases q)

section
variable {G : Gd} {kOf : Nat → FuncData → Prop} {h₀ h h' h'' : Heap} {fa : List Addr} {ρ ρ' ρ'' : Rho} {σ σ' : Hp} {m m' m'' : Str → Option Value}

theorem OR.mut {o : O} {p : Addr × Addr} (ho : OR G kOf h ρ o p) : ∃ ob, h.get? p.2 = some ob ∧ Mut ob := by
  cases o with
  | list vs => obtain ⟨zz, ws, n, e, zz⟩ := ho; exact ⟨_, e, .inl ⟨rfl, _, _, rfl⟩⟩
  | inst C fs => obtain ⟨zz, es, n, e, zz⟩ := ho; exact ⟨_, e, .inr (.inl ⟨_, _, rfl⟩)⟩
  | cell v => obtain ⟨zz, o, w, e, d, zz⟩ := ho; exact ⟨_, e, .inr (.inr (.inl ⟨_, d⟩))⟩
  | clos k cs => obtain ⟨zz, o, fd, e, zz, d, zz⟩ := ho; exact ⟨_, e, .inr (.inr (.inr ⟨_, d⟩))⟩
theorem Rel.mut (R : Rel G kOf h₀ fa h ρ σ) {p : Addr × Addr} (hp : p ∈ ρ) : ∃ o, h.get? p.2 = some o ∧ Mut o := by
  obtain ⟨n, hn, rfl⟩ := List.mem_iff_getElem.mp hp
  have hn' : n < σ.length := R.len ▸ hn
  obtain ⟨p, hp', ho⟩ := R.obj n σ[n] (List.getElem?_eq_getElem hn')
  rw [List.getElem?_eq_getElem hn] at hp'
  cases hp'
  exact ho.mut
theorem Rel.at {n : Nat} {o : O} (R : Rel G kOf h₀ fa h ρ σ) (e : σ[n]? = some o) {p : Addr × Addr} (hp : ρ[n]? = some p) : OR G kOf h ρ o p := by
  obtain ⟨p', hp', ho⟩ := R.obj n o e
  rw [hp] at hp'; cases hp'; exact ho

theorem Ext.refl : Ext fa h ρ h ρ := ⟨⟨[], by simp, fun zz hp => nomatch hp⟩, fun zz zz e zz zz => e⟩
theorem Ext.trans (x : Ext fa h ρ h' ρ') (y : Ext fa h' ρ' h'' ρ'') (R' : Rel G kOf h₀ fa h' ρ' σ') : Ext fa h ρ h'' ρ'' := by
  obtain ⟨t, rfl, ht⟩ := x.pre
  obtain ⟨u, rfl, hu⟩ := y.pre
  refine ⟨⟨t ++ u, by simp, fun p hp => ?_⟩, fun b o e hb hL => y.keep b o (x.keep b o e hb hL) (fun p hp => ?_) hL⟩
  · rcases List.mem_append.mp hp with hp | hp
    · exact ht p hp
    · cases q : h.get? p.2 with
      | none => rfl
      | some o =>
        exfalso
        have hn := hu p hp
        by_cases hL : p.2 ∈ fa
        · obtain ⟨oL, eL, zz⟩ := R'.mutF _ hL
          rw [eL] at hn; cases hn
        · by_cases hf : ∀ p' ∈ ρ, p'.2 ≠ p.2
          · rw [x.keep _ _ q hf hL] at hn; cases hn
          · obtain ⟨p', h1⟩ := Classical.not_forall.mp hf
            obtain ⟨h1, h2⟩ := Classical.not_imp.mp h1
            obtain ⟨o', e', zz⟩ := R'.mut (List.mem_append_left t h1)
            rw [Classical.not_not.mp h2, hn] at e'; cases e'
  · rcases List.mem_append.mp hp with hp | hp
    · exact hb p hp
    · intro q; rw [← q, ht p hp] at e; cases e

theorem Ext.get {n : Nat} {p : Addr × Addr} (x : Ext fa h ρ h' ρ') (e : ρ[n]? = some p) : ρ'[n]? = some p := by
  obtain ⟨t, rfl, zz⟩ := x.pre
  rw [List.getElem?_append_left (by exact (List.getElem?_eq_some_iff.mp e).1), e]
theorem Ext.mem {p : Addr × Addr} (x : Ext fa h ρ h' ρ') (e : p ∈ ρ) : p ∈ ρ' := by
  obtain ⟨t, rfl, zz⟩ := x.pre
  exact List.mem_append_left _ e
theorem Ext.objOf {b : Addr} {o : Obj} (x : Ext fa h ρ h' ρ') (R : Rel G kOf h₀ fa h ρ σ) (e : h.get? b = some o) (hm : ¬ Mut o) : h'.get? b = some o := by
  refine x.keep b o e (fun p hp q => ?_) fun q => ?_
  · obtain ⟨o', e', k⟩ := R.mut hp
    rw [q, e] at e'; cases e'; exact hm k
  · obtain ⟨oL, eL, es, ep, d⟩ := R.mutF _ q
    rw [eL] at e; cases e; exact hm (.inr (.inl ⟨_, _, d⟩))
theorem Ext.tup {b : Addr} {ws : Array Value} (x : Ext fa h ρ h' ρ') (R : Rel G kOf h₀ fa h ρ σ) (e : IsTup h b ws) : IsTup h' b ws := by
  obtain ⟨o, e, hc, n, hd⟩ := e
  exact ⟨o, x.objOf R e (fun k => k.notTup hc hd), hc, n, hd⟩
end

section
variable {G : Gd} {h h' : Heap} {ρ ρ' : Rho}
mutual
theorem VR.mono (hT : ∀ b ws, ¬ G.bad b → IsTup h b ws → IsTup h' b ws) (hR : ∀ a n t u v, IsRange h a 0 n 1 t u v → IsRange h' a 0 n 1 t u v) (hρ : ∀ (n : Nat) p, ρ[n]? = some p → ρ'[n]? = some p) :
    ∀ (v : V) (w : Value), VR G h ρ v w → VR G h' ρ' v w
  | .none, _, x => x
  | .bool _, _, x => x
  | .int _, _, x => x
  | .str _, _, x => x
  | .tup vs, _, x => by
    obtain ⟨a, ws, e, t, r⟩ := x
    exact ⟨a, ws, e, ⟨hT _ _ t.2 t.1, t.2⟩, VRs.mono hT hR hρ vs ws r⟩
  | .lst vs, _, x => by
    exact ⟨x.1, VRs.mono hT hR hρ vs _ x.2⟩
  | .rng _, _, x => by
    obtain ⟨a, t, u, v, e, r⟩ := x
    exact ⟨a, t, u, v, e, hR _ _ _ _ _ r⟩
  | .ref _, _, x => by
    obtain ⟨p, e, r⟩ := x
    exact ⟨p, hρ _ _ e, r⟩
  | .top _, _, x => x
theorem VRs.mono (hT : ∀ b ws, ¬ G.bad b → IsTup h b ws → IsTup h' b ws) (hR : ∀ a n t u v, IsRange h a 0 n 1 t u v → IsRange h' a 0 n 1 t u v) (hρ : ∀ (n : Nat) p, ρ[n]? = some p → ρ'[n]? = some p) :
    ∀ (v : List V) (w : List Value), VRs G h ρ v w → VRs G h' ρ' v w
  | [], [], _ => trivial
  | v :: vs, w :: ws, x => by
    exact ⟨VR.mono hT hR hρ v w x.1, VRs.mono hT hR hρ vs ws x.2⟩
  | [], _ :: _, x => False.elim x
  | _ :: _, [], x => False.elim x
end
theorem VRs.nil {ws : List Value} (x : VRs G h ρ [] ws) : ws = [] := by
  cases ws with
  | nil => rfl
  | cons => exact False.elim x
theorem VRs.cons {v : V} {vs : List V} {ws : List Value} (x : VRs G h ρ (v :: vs) ws) : ∃ w r, ws = w :: r ∧ VR G h ρ v w ∧ VRs G h ρ vs r := by
  cases ws with
  | nil => exact False.elim x
  | cons w r => exact ⟨w, r, rfl, x⟩
theorem FRel.mono (H : ∀ v w, VR G h ρ v w → VR G h' ρ' v w) : ∀ (fs : List (Nat × V)) (es : List DictEntry), FRel G h ρ fs es → FRel G h' ρ' fs es
  | [], [], _ => trivial
  | (x, v) :: fs, e :: es, y => by
    obtain ⟨⟨s, t, a, b, c⟩, r⟩ := y
    exact ⟨⟨s, t, a, b, H _ _ c⟩, FRel.mono H fs es r⟩
  | [], _ :: _, x => False.elim x
  | _ :: _, [], x => False.elim x
theorem CelRel.mono {cel : List (Nat × Nat)} {cs : List (Str × Addr)} (hρ : ∀ (n : Nat) p, ρ[n]? = some p → ρ'[n]? = some p) (x : CelRel ρ cel cs) : CelRel ρ' cel cs := fun y n e => by
  obtain ⟨s, p, a, b, c⟩ := x y n e
  exact ⟨s, p, a, hρ _ _ b, c⟩
end

section
variable {G : Gd} {kOf : Nat → FuncData → Prop} {h₀ h h' h'' : Heap} {fa : List Addr} {ρ ρ' ρ'' : Rho} {σ σ' : Hp} {m m' m'' : Str → Option Value}
theorem Ext.vr (x : Ext fa h ρ h' ρ') (R : Rel G kOf h₀ fa h ρ σ) {v : V} {w : Value} (y : VR G h ρ v w) : VR G h' ρ' v w :=
  VR.mono (fun zz zz zz e => x.tup R e) (fun zz zz zz zz zz e => x.objOf R e (fun k => k.notFields rfl)) (fun zz zz e => x.get e) v w y
theorem Ext.vrs (x : Ext fa h ρ h' ρ') (R : Rel G kOf h₀ fa h ρ σ) {v : List V} {w : List Value} (y : VRs G h ρ v w) : VRs G h' ρ' v w :=
  VRs.mono (fun zz zz zz e => x.tup R e) (fun zz zz zz zz zz e => x.objOf R e (fun k => k.notFields rfl)) (fun zz zz e => x.get e) v w y

theorem OR.carry {o : O} {p : Addr × Addr} (x : Ext fa h ρ h' ρ') (R : Rel G kOf h₀ fa h ρ σ) (y : OR G kOf h ρ o p) (e : ∀ o, h.get? p.2 = some o → h'.get? p.2 = some o) : OR G kOf h' ρ' o p := by
  have H : ∀ v w, VR G h ρ v w → VR G h' ρ' v w := fun zz zz z => x.vr R z
  cases o with
  | list vs => obtain ⟨q, ws, n, a, b⟩ := y; exact ⟨q, ws, n, e _ a, x.vrs R b⟩
  | inst C fs => obtain ⟨q, es, n, a, b⟩ := y; exact ⟨x.objOf R q (fun k => k.notPlain rfl), es, n, e _ a, FRel.mono H _ _ b⟩
  | cell v =>
    obtain ⟨q, o, w, a, b, c⟩ := y
    refine ⟨q, o, w, e _ a, b, ?_⟩
    cases v <;> cases w <;> first | exact c | exact H _ _ c
  | clos k cs =>
    obtain ⟨q, o, fd, a, b, c, d, ⟨cc, oc, vs, t, c1, c2, c3, c4⟩, f⟩ := y
    exact ⟨q, o, fd, e _ a, b, c, d, ⟨cc, oc, vs, t, c1, x.objOf R c2 (fun k => k.notFields c3), c3, c4⟩, f.mono (fun zz zz e => x.get e)⟩
end
end Mine.Internal
end

section
open PySem PySem.W PyProof.Rows PySem.Calls
set_option autoImplicit false
set_option maxRecDepth 100000
namespace Mine.Internal

structure Bx where
  G : Gd
  kOf : Nat → FuncData → Prop
  h₀ : Heap
  L : Addr
  frs : List (Addr × Obj)
@[reducible] def Bx.fa (X : Bx) : List Addr := X.L :: X.frs.map (·.1)

structure At (X : Bx) (m : Str → Option Value) (s : Shared) (ρ : Rho) (σ : Hp) : Prop where
  fr : Fr X.h₀ X.L s.heap m
  rel : Rel X.G X.kOf X.h₀ X.fa s.heap ρ σ
  out : ∀ q ∈ X.frs, ∃ sl, s.heap.get? q.1 = some { q.2 with slots := sl }
  apart : ∀ q ∈ X.frs, X.h₀.get? q.1 = none ∧ q.1 ≠ X.L
  bad : ∀ a, X.G.bad a → X.h₀.get? a = none ∧ ∃ o, s.heap.get? a = some o
theorem At.bad_of {X : Bx} {m : Str → Option Value} {s : Shared} {ρ : Rho} {σ : Hp} {h' : Heap} (a : At X m s ρ σ) (k : ∀ b o, s.heap.get? b = some o → ∃ o, h'.get? b = some o) : ∀ a, X.G.bad a → X.h₀.get? a = none ∧ ∃ o, h'.get? a = some o := fun b hb => by
  obtain ⟨h1, o, h2⟩ := a.bad b hb
  exact ⟨h1, k b o h2⟩
theorem At.nbad {X : Bx} {m : Str → Option Value} {s : Shared} {ρ : Rho} {σ : Hp} (a : At X m s ρ σ) {b : Addr} (h : s.heap.get? b = none) : ¬ X.G.bad b := fun q => by
  obtain ⟨zz, o, e⟩ := a.bad b q
  rw [h] at e; cases e
theorem At.nbad₀ {X : Bx} {m : Str → Option Value} {s : Shared} {ρ : Rho} {σ : Hp} (a : At X m s ρ σ) {b : Addr} {o : Obj} (h : X.h₀.get? b = some o) : ¬ X.G.bad b := fun q => by
  rw [(a.bad b q).1] at h; cases h

structure After (X : Bx) (m : Str → Option Value) (s : Shared) (ρ : Rho) (s' : Shared) (ρ' : Rho) (σ' : Hp) : Prop where
  eq : ∃ h' tk', s' = { s with heap := h', toks := tk' }
  at_ : At X m s' ρ' σ'
  ext : Ext X.fa s.heap ρ s'.heap ρ'

section
variable {X : Bx} {m m' m'' : Str → Option Value} {s s' s'' : Shared} {ρ ρ' ρ'' : Rho} {σ σ' σ'' : Hp} {h' : Heap} {tk' : Nat}

theorem After.refl (a : At X m s ρ σ) : After X m s ρ s ρ σ := ⟨⟨s.heap, s.toks, rfl⟩, a, .refl⟩
theorem After.trans (x : After X m' s ρ s' ρ' σ') (y : After X m'' s' ρ' s'' ρ'' σ'') : After X m'' s ρ s'' ρ'' σ'' := by
  obtain ⟨h1, t1, rfl⟩ := x.eq
  obtain ⟨h2, t2, e⟩ := y.eq
  exact ⟨⟨h2, t2, e⟩, y.at_, x.ext.trans y.ext x.at_.rel⟩
theorem After.vr (x : After X m' s ρ s' ρ' σ') (a : At X m s ρ σ) {v : V} {w : Value} (y : VR X.G s.heap ρ v w) : VR X.G s'.heap ρ' v w := x.ext.vr a.rel y
theorem After.vrs (x : After X m' s ρ s' ρ' σ') (a : At X m s ρ σ) {v : List V} {w : List Value} (y : VRs X.G s.heap ρ v w) : VRs X.G s'.heap ρ' v w := x.ext.vrs a.rel y

theorem After.toks (a : At X m s ρ σ) (tk : Nat) : After X m s ρ { s with toks := tk } ρ σ := ⟨⟨s.heap, tk, rfl⟩, ⟨a.fr, a.rel, a.out, a.apart, a.bad⟩, .refl⟩

theorem At.mutF_of (a : At X m s ρ σ) (F' : Fr X.h₀ X.L h' m') (k : ∀ b o, s.heap.get? b = some o → b ≠ X.L → (∀ p ∈ ρ, p.2 ≠ b) → h'.get? b = some o) :
    (∀ b ∈ X.fa, ∃ o, h'.get? b = some o ∧ ∃ es n, o.data = .dict es n) ∧ ∀ q ∈ X.frs, ∃ sl, h'.get? q.1 = some { q.2 with slots := sl } := by
  have hL : ∀ b ∈ X.frs.map (·.1), b ≠ X.L := fun b hb => by
    obtain ⟨q, hq, rfl⟩ := List.mem_map.mp hb
    exact (a.apart q hq).2
  have hp : ∀ b ∈ X.fa, ∀ p ∈ ρ, p.2 ≠ b := fun b hb p hp q => (a.rel.new p hp).2 (q ▸ hb)
  refine ⟨fun b hb => ?_, fun q hq => ?_⟩
  · rcases List.mem_cons.mp hb with rfl | hb'
    · obtain ⟨o, es, n, e, d, zz⟩ := F'.ns; exact ⟨o, e, es, n, d⟩
    · obtain ⟨o, e, d⟩ := a.rel.mutF b hb
      exact ⟨o, k _ _ e (hL b hb') (hp b hb), d⟩
  · obtain ⟨sl, e⟩ := a.out q hq
    have hm : q.1 ∈ X.frs.map (·.1) := List.mem_map_of_mem hq
    exact ⟨sl, k _ _ e (hL _ hm) (hp _ (.tail _ hm))⟩

theorem badK {X : Bx} {m m' : Str → Option Value} {s : Shared} {ρ : Rho} {σ : Hp} {h' : Heap} (a : At X m s ρ σ) (F' : Fr X.h₀ X.L h' m') (k : ∀ b o, s.heap.get? b = some o → b ≠ X.L → h'.get? b = some o) : ∀ a, X.G.bad a → X.h₀.get? a = none ∧ ∃ o, h'.get? a = some o := a.bad_of fun b o e => by
  by_cases hb : b = X.L
  · obtain ⟨oo, zz, zz, eo, zz⟩ := F'.ns; exact ⟨oo, hb ▸ eo⟩
  · exact ⟨o, k b o e hb⟩
theorem After.keep (a : At X m s ρ σ) (F' : Fr X.h₀ X.L h' m') (k : ∀ b o, s.heap.get? b = some o → b ≠ X.L → h'.get? b = some o) : After X m' s ρ { s with heap := h', toks := tk' } ρ σ := by
  have x : Ext X.fa s.heap ρ h' ρ := ⟨⟨[], by simp, fun zz hp => nomatch hp⟩, fun b o e zz hL => k b o e fun q => hL (q ▸ .head _)⟩
  obtain ⟨mF, oF⟩ := a.mutF_of F' fun b o e hL zz => k b o e hL
  refine ⟨⟨h', tk', rfl⟩, ⟨F', ⟨a.rel.len, fun n o e => ?_, a.rel.new, a.rel.nod, mF⟩, oF, a.apart, badK a F' k⟩, x⟩
  obtain ⟨p, hp, ho⟩ := a.rel.obj n o e
  exact ⟨p, hp, ho.carry x a.rel fun o e => k _ _ e fun q => (a.rel.new p (List.mem_of_getElem? hp)).2 (q ▸ .head _)⟩

theorem After.new (a : At X m s ρ σ) (F' : Fr X.h₀ X.L h' m') (k : ∀ b o, s.heap.get? b = some o → b ≠ X.L → h'.get? b = some o) {p : Addr × Addr} {o : O}
    (hn : s.heap.get? p.2 = none) (ho : OR X.G X.kOf h' (ρ ++ [p]) o p) : After X m' s ρ { s with heap := h', toks := tk' } (ρ ++ [p]) (σ ++ [o]) := by
  have x : Ext X.fa s.heap ρ h' (ρ ++ [p]) := ⟨⟨[p], rfl, fun q hq => by rw [List.mem_singleton.mp hq]; exact hn⟩, fun b o e zz hL => k b o e fun q => hL (q ▸ .head _)⟩
  have hn₀ : X.h₀.get? p.2 = none := by
    cases q : X.h₀.get? p.2 with
    | none => rfl
    | some o => rw [a.fr.keep _ _ q] at hn; cases hn
  have hL : p.2 ∉ X.fa := fun hm => by
    obtain ⟨o, e, zz⟩ := a.rel.mutF _ hm
    rw [hn] at e; cases e
  obtain ⟨mF, oF⟩ := a.mutF_of F' fun b o e hL zz => k b o e hL
  refine ⟨⟨h', tk', rfl⟩, ⟨F', ⟨by simp [a.rel.len], fun n o' e => ?_, fun q hq => ?_, ?_, mF⟩, oF, a.apart, badK a F' k⟩, x⟩
  · by_cases hlt : n < σ.length
    · rw [List.getElem?_append_left hlt] at e
      obtain ⟨q, hq, ho⟩ := a.rel.obj n o' e
      exact ⟨q, x.get hq, ho.carry x a.rel fun o e => k _ _ e fun z => (a.rel.new q (List.mem_of_getElem? hq)).2 (z ▸ .head _)⟩
    · have hlt' : σ.length ≤ n := Nat.not_lt.mp hlt
      rw [List.getElem?_append_right hlt'] at e
      have : n = σ.length := by
        rcases Nat.lt_or_ge 0 (n - σ.length) with q | q
        · rw [List.getElem?_eq_none (by simp only [List.length_singleton]; exact Nat.succ_le_of_lt ‹_›)] at e; cases e
        · omega
      subst this
      simp at e; subst e
      exact ⟨p, by rw [List.getElem?_append_right (Nat.le_of_eq a.rel.len)]; simp [a.rel.len], ho⟩
  · rcases List.mem_append.mp hq with hq | hq
    · exact a.rel.new q hq
    · rw [List.mem_singleton.mp hq]; exact ⟨hn₀, hL⟩
  · rw [List.map_append, List.nodup_append]
    refine ⟨a.rel.nod, by simp, fun b hb c hc => ?_⟩
    simp at hc; subst hc
    obtain ⟨q, hq, rfl⟩ := List.mem_map.mp hb
    obtain ⟨ob, eb, zz⟩ := a.rel.mut hq
    intro e; rw [e, hn] at eb; cases eb

theorem After.upd (a : At X m s ρ σ) (F' : Fr X.h₀ X.L h' m') {n : Nat} {p : Addr × Addr} {o : O} (hp : ρ[n]? = some p)
    (k : ∀ b o, s.heap.get? b = some o → b ≠ X.L → b ≠ p.2 → h'.get? b = some o)
    (ho : Ext X.fa s.heap ρ h' ρ → OR X.G X.kOf h' ρ o p) : After X m' s ρ { s with heap := h', toks := tk' } ρ (σ.set n o) := by
  have hm := List.mem_of_getElem? hp
  have x : Ext X.fa s.heap ρ h' ρ := ⟨⟨[], by simp, fun zz hp => nomatch hp⟩, fun b o e hb hL => k b o e (fun q => hL (q ▸ .head _)) (fun q => hb p hm q.symm)⟩
  obtain ⟨mF, oF⟩ := a.mutF_of F' fun b o e hL hb => k b o e hL fun q => hb p hm q.symm
  have bd := a.bad_of (h' := h') fun b ob e => by
    by_cases hb : b = X.L
    · obtain ⟨oo, zz, zz, eo, zz⟩ := F'.ns; exact ⟨oo, hb ▸ eo⟩
    · by_cases hb2 : b = p.2
      · obtain ⟨oo, eo, zz⟩ := (ho x).mut; exact ⟨oo, hb2 ▸ eo⟩
      · exact ⟨ob, k b ob e hb hb2⟩
  refine ⟨⟨h', tk', rfl⟩, ⟨F', ⟨by simp [a.rel.len], fun j o' e => ?_, a.rel.new, a.rel.nod, mF⟩, oF, a.apart, bd⟩, x⟩
  rw [List.getElem?_set] at e
  by_cases hj : n = j
  · subst hj
    rw [if_pos rfl] at e
    split at e
    · cases e; exact ⟨p, hp, ho x⟩
    · cases e
  · rw [if_neg hj] at e
    obtain ⟨q, hq, ho'⟩ := a.rel.obj j o' e
    refine ⟨q, hq, ho'.carry x a.rel fun o e => k _ _ e (fun z => (a.rel.new q (List.mem_of_getElem? hq)).2 (z ▸ .head _)) fun c => hj ?_⟩
    have h1 : (ρ.map (·.2))[n]? = some p.2 := by simp [hp]
    have h2 : (ρ.map (·.2))[j]? = some p.2 := by simp [hq, c]
    exact (List.getElem?_inj (List.getElem?_eq_some_iff.mp h1).1 a.rel.nod).mp (h1.trans h2.symm)
end

noncomputable def own (h₀ : Heap) (L : Addr) (h : Heap) : List (Addr × Obj) :=
  (List.range h.objs.size).filterMap fun a => if a = L then none else match h₀.get? a, h.get? a with
    | none, some o => some (a, o)
    | _, _ => none
theorem mem_own {h₀ h : Heap} {L a : Addr} {o : Obj} : (a, o) ∈ own h₀ L h ↔ h.get? a = some o ∧ a ≠ L ∧ h₀.get? a = none := by
  unfold own
  rw [List.mem_filterMap]
  constructor
  · rintro ⟨b, _, e⟩
    split at e
    · cases e
    · rename_i hL
      split at e
      · rename_i e1 e2; cases e; exact ⟨e2, hL, e1⟩
      · cases e
  · rintro ⟨e, hL, e0⟩
    refine ⟨a, List.mem_range.mpr (Heap.lt_size e), ?_⟩
    rw [if_neg hL, e0, e]
theorem own_news (h₀ : Heap) (L : Addr) (h : Heap) : News h₀ L h (own h₀ L h) := fun p hp => by
  obtain ⟨a, o⟩ := p
  exact mem_own.mp hp
theorem own_nodup (h₀ : Heap) (L : Addr) (h : Heap) : ((own h₀ L h).map (·.1)).Nodup := by
  have : ∀ l : List Nat, l.Nodup → ((l.filterMap fun a => if a = L then none else match h₀.get? a, h.get? a with | none, some o => some (a, o) | _, _ => none).map (·.1)).Nodup := by
    intro l
    induction l with
    | nil => intro _; simp
    | cons a l ih =>
      intro hn
      obtain ⟨h1, h2⟩ := List.nodup_cons.mp hn
      rw [List.filterMap_cons]
      split
      · exact ih h2
      · rename_i q e
        rw [List.map_cons, List.nodup_cons]
        refine ⟨fun hm => h1 ?_, ih h2⟩
        obtain ⟨y, hy, e1⟩ := List.mem_map.mp hm
        obtain ⟨c, hc, e2⟩ := List.mem_filterMap.mp hy
        have e3 : q.1 = a := by
          split at e
          · cases e
          · split at e
            · cases e; rfl
            · cases e
        have e4 : y.1 = c := by
          split at e2
          · cases e2
          · split at e2
            · cases e2; rfl
            · cases e2
        rw [← e3, ← e1, e4]; exact hc
  exact this _ List.nodup_range

section
variable {X : Bx} {m m' : Str → Option Value} {s : Shared} {ρ : Rho} {σ : Hp} {h' : Heap}
theorem keep_of_own {h₀ h h' : Heap} {L : Addr} {m m' : Str → Option Value} {news : List (Addr × Obj)} (F : Fr h₀ L h m) (F' : Fr h₀ L h' m') (N : News h₀ L h' news) (sub : ∀ q ∈ own h₀ L h, q ∈ news) :
    ∀ b o, h.get? b = some o → b ≠ L → h'.get? b = some o := fun b o e hL => by
  cases q : h₀.get? b with
  | none => exact (N (b, o) (sub _ (mem_own.mpr ⟨e, hL, q⟩))).1
  | some o' =>
    have := F.keep _ _ q; rw [e] at this; cases this
    exact F'.keep _ _ q
theorem none_of_new {h₀ h h' : Heap} {L a : Addr} {o : Obj} {news : List (Addr × Obj)} (N : News h₀ L h' ((a, o) :: news)) (hne : ∀ q ∈ own h₀ L h, q.1 ≠ a) : h.get? a = none := by
  have z := N (a, o) (.head _)
  cases q : h.get? a with
  | none => rfl
  | some o' => exact absurd rfl (hne (a, o') (mem_own.mpr ⟨q, z.2⟩))
end
end Mine.Internal
end

section
open PySem PySem.W PyProof.Rows PySem.Calls PySem.SeqAt
set_option autoImplicit false
set_option maxRecDepth 100000
namespace Mine.Internal

noncomputable def NotVal (o : Obj) : Prop := (∀ vs n, o.cls = .type "tuple" → o.data ≠ .seq vs n) ∧ (o.cls = .type "range" → ∀ vs, o.data ≠ .fields vs) ∧ o.data ≠ .plain ∧ ∀ vs, o.data = .fields vs → ∀ q t, vs[1]? ≠ some (.str q t)

theorem nv_fields {T : String} {vs : Array Value} (h1 : T ≠ "tuple") (h2 : T ≠ "range") (h3 : ∀ q t, vs[1]? ≠ some (.str q t)) : NotVal { cls := .type T, data := .fields vs } :=
  ⟨fun zz zz q => absurd (by injection q) h1, fun q => absurd (by injection q) h2, fun q => (by cases q), fun zz e => by cases e; exact h3⟩
theorem nv_dict {o : Obj} {es : Array DictEntry} {n : Nat} (h : o.data = .dict es n) : NotVal o := ⟨fun zz zz zz q => (by rw [h] at q; cases q), fun zz zz q => (by rw [h] at q; cases q), fun q => (by rw [h] at q; cases q), fun zz q => (by rw [h] at q; cases q)⟩
theorem nv_list (ws : Array Value) (n : Nat) : NotVal (W.listOf ws n) := ⟨fun zz zz q => (by injection q with q; exact absurd q (by decide)), fun zz zz q => (by cases q), fun q => (by cases q), fun zz q => by cases q⟩

section
variable {X : Bx} {m m' : Str → Option Value} {s₀ s s' : Shared} {ρ₀ ρ ρ' : Rho} {σ₀ σ σ' : Hp} {h h' : Heap}
structure Side (X : Bx) (s₀ : Shared) (ρ : Rho) (h : Heap) (b : Addr) : Prop where
  base : X.h₀.get? b = none
  new : s₀.heap.get? b = none
  fa : b ∉ X.fa
  rho : ∀ p ∈ ρ, p.2 ≠ b
  obj : ∃ o, h.get? b = some o ∧ NotVal o
  bad : ¬ X.G.bad b

theorem Side.after {b : Addr} (S : Side X s₀ ρ s.heap b) (x : After X m s ρ s' ρ' σ') : Side X s₀ ρ' s'.heap b ∧ ∀ o, s.heap.get? b = some o → s'.heap.get? b = some o := by
  obtain ⟨o, ho, hn⟩ := S.obj
  have k : ∀ o, s.heap.get? b = some o → s'.heap.get? b = some o := fun o e => x.ext.keep b o e S.rho S.fa
  refine ⟨⟨S.base, S.new, S.fa, fun p hp => ?_, ⟨o, k _ ho, hn⟩, S.bad⟩, k⟩
  obtain ⟨t, e, ht⟩ := x.ext.pre
  rw [e] at hp
  rcases List.mem_append.mp hp with hp | hp
  · exact S.rho p hp
  · intro q; have := ht p hp; rw [q, ho] at this; cases this


theorem Side.pre {b : Addr} (a : At X m s ρ σ) (x : After X m' s₀ ρ₀ s ρ σ) (S : Side X s ρ' h b) : Side X s₀ ρ' h b := by
  refine ⟨S.base, ?_, S.fa, S.rho, S.obj, S.bad⟩
  cases q : s₀.heap.get? b with
  | none => rfl
  | some o =>
    exfalso
    by_cases h2 : ∀ p ∈ ρ₀, p.2 ≠ b
    · have := x.ext.keep _ _ q h2 S.fa
      rw [S.new] at this; cases this
    · obtain ⟨p, h3⟩ := Classical.not_forall.mp h2
      obtain ⟨h3, h4⟩ := Classical.not_imp.mp h3
      obtain ⟨o', e', zz⟩ := a.rel.mut (x.ext.mem h3)
      rw [Classical.not_not.mp h4, S.new] at e'; cases e'

noncomputable def Aside (G : Gd) (h : Heap) (b : Addr) : Prop := (∃ o, h.get? b = some o ∧ NotVal o) ∨ G.bad b ∧ ∃ o ws n, h.get? b = some o ∧ o.data = .seq ws n

theorem vrs_aside {G : Gd} {ρ : Rho} {B : Addr → Prop} (hB : ∀ b, B b → Aside G h b) (k : ∀ c o, ¬ B c → h.get? c = some o → h'.get? c = some o) {v : List V} {w : List Value} (y : VRs G h ρ v w) : VRs G h' ρ v w :=
  VRs.mono (fun c ws nb t => by
    obtain ⟨o, e, hc, n, hd⟩ := t
    refine ⟨o, k c o (fun q => ?_) e, hc, n, hd⟩
    rcases hB c q with ⟨ob, hb, hn⟩ | ⟨hb, _⟩
    · rw [hb] at e; cases e; exact hn.1 _ _ hc hd
    · exact nb hb)
    (fun c n t u v e => k c _ (fun q => by
      rcases hB c q with ⟨ob, hb, hn⟩ | ⟨_, ob, ws, n', hb, hd⟩
      · rw [show h.get? c = some _ from e] at hb; cases hb; exact hn.2.1 rfl _ rfl
      · rw [show h.get? c = some _ from e] at hb; cases hb; cases hd) e) (fun zz zz e => e) v w y
theorem vr_aside {G : Gd} {ρ : Rho} {B : Addr → Prop} (hB : ∀ b, B b → Aside G h b) (k : ∀ c o, ¬ B c → h.get? c = some o → h'.get? c = some o) {v : V} {w : Value} (y : VR G h ρ v w) : VR G h' ρ v w := by
  exact (vrs_aside (v := [v]) (w := [w]) hB k ⟨y, trivial⟩).1

theorem OR.aside {G : Gd} {kOf : Nat → FuncData → Prop} {ρ : Rho} {B : Addr → Prop} (hB : ∀ b, B b → Aside G h b) (k : ∀ c o, ¬ B c → h.get? c = some o → h'.get? c = some o) {o : O} {p : Addr × Addr} (ho : OR G kOf h ρ o p) (hpb : ¬ B p.2) : OR G kOf h' ρ o p := by
  have V : ∀ v w, VR G h ρ v w → VR G h' ρ v w := fun v w => vr_aside hB k
  cases o with
  | list vs => obtain ⟨q, ws, n, c1, c2⟩ := ho; exact ⟨q, ws, n, k _ _ hpb c1, vrs_aside hB k c2⟩
  | inst C fs =>
    obtain ⟨q, es, n, c1, c2⟩ := ho
    refine ⟨k _ _ (fun z => ?_) q, es, n, k _ _ hpb c1, FRel.mono V _ _ c2⟩
    rcases hB _ z with ⟨ob, hb, hn⟩ | ⟨_, ob, ws, n', hb, hd⟩
    · rw [hb] at q; cases q; exact hn.2.2.1 rfl
    · rw [hb] at q; cases q; cases hd
  | cell v =>
    obtain ⟨q, o, w, c1, c2, c3⟩ := ho
    refine ⟨q, o, w, k _ _ hpb c1, c2, ?_⟩
    cases v <;> cases w <;> first | exact c3 | exact V _ _ c3
  | clos kk cs =>
    obtain ⟨q, o, fd, c1, c2, c3, c4, ⟨cc, oc, vs, t, d1, d2, d3, d4⟩, c5⟩ := ho
    refine ⟨q, o, fd, k _ _ hpb c1, c2, c3, c4, ⟨cc, oc, vs, t, d1, k _ _ (fun z => ?_) d2, d3, d4⟩, c5⟩
    rcases hB _ z with ⟨ob, hb, hn⟩ | ⟨_, ob, ws, n', hb, hd⟩
    · rw [hb] at d2; cases d2; exact hn.2.2.2 _ d3 _ _ d4
    · rw [hb] at d2; cases d2; rw [hd] at d3; cases d3


theorem After.upE {e : Addr} {h₃ : Heap} (x : After X m s₀ ρ₀ s ρ σ) (S : Side X s₀ ρ s.heap e) (st : (hideAll s.heap (e :: X.fa)).StaysIn h₃) (u : s.heap.UpToSlots h₃) : After X m s₀ ρ₀ { s with heap := h₃ } ρ σ := by
  have a := x.at_
  let B : Addr → Prop := fun b => b = e ∨ b ∈ X.fa
  have hB : ∀ b, B b → Aside X.G s.heap b := fun b q => by
    rcases q with rfl | q
    · exact .inl S.obj
    · obtain ⟨o, e', es, n, d⟩ := a.rel.mutF b q
      exact .inl ⟨o, e', nv_dict d⟩
  have K : ∀ c o, ¬ B c → s.heap.get? c = some o → h₃.get? c = some o := fun c o hc e' => st c o (hideAll_get _ e' fun q => hc (by
    rcases List.mem_cons.mp q with q | q
    · exact .inl q
    · exact .inr q))
  have U : ∀ b ∈ X.fa, ∀ o, s.heap.get? b = some o → ∃ sl, h₃.get? b = some { o with slots := sl } := fun b hb o e => u b o e fun vs q => by
    obtain ⟨o', e', es, n, d⟩ := a.rel.mutF b hb
    rw [e] at e'; cases e'
    rw [d] at q; cases q
  have nf : ∀ b o, X.h₀.get? b = some o → ¬ B b := fun b o e' q => by
    rcases q with rfl | q
    · rw [S.base] at e'; cases e'
    rcases List.mem_cons.mp q with rfl | q
    · exact absurd (Heap.lt_size e') (Nat.not_lt.mpr a.fr.above)
    · obtain ⟨p, hp, rfl⟩ := List.mem_map.mp q
      rw [(a.apart p hp).1] at e'; cases e'
  have bd : ∀ b, X.G.bad b → X.h₀.get? b = none ∧ ∃ o, h₃.get? b = some o := fun b hbd => by
    obtain ⟨h1, o, e'⟩ := a.bad b hbd
    refine ⟨h1, ?_⟩
    by_cases hb : b ∈ X.fa
    · obtain ⟨sl, e'⟩ := U b hb o e'; exact ⟨_, e'⟩
    · exact ⟨o, K b o (fun z => by rcases z with rfl | z; exact S.bad hbd; exact hb z) e'⟩
  obtain ⟨hh, tt, e0⟩ := x.eq
  refine ⟨⟨h₃, s.toks, by rw [e0]⟩, ⟨⟨u.ns a.fr.ns, fun b o e => K b o (nf b o e) (a.fr.keep b o e), a.fr.above⟩, ⟨a.rel.len, fun n o e' => ?_, a.rel.new, a.rel.nod, fun b hb => ?_⟩, fun q hq => ?_, a.apart, bd⟩,
    ⟨x.ext.pre, fun c o e' h1 h2 => K c o (fun q => by rcases q with rfl | q; rw [S.new] at e'; cases e'; exact h2 q) (x.ext.keep c o e' h1 h2)⟩⟩
  · obtain ⟨p, hp, ho⟩ := a.rel.obj n o e'
    have hm := List.mem_of_getElem? hp
    exact ⟨p, hp, ho.aside hB K fun q => by rcases q with q | q; exact S.rho p hm q; exact (a.rel.new p hm).2 q⟩
  · obtain ⟨o, e, es, n, d⟩ := a.rel.mutF b hb
    obtain ⟨sl, e'⟩ := U b hb o e
    exact ⟨_, e', es, n, d⟩
  · obtain ⟨sl, e⟩ := a.out q hq
    obtain ⟨sl', e'⟩ := U q.1 (.tail _ (List.mem_map_of_mem hq)) _ e
    exact ⟨sl', e'⟩
end
end Mine.Internal
end

section
open PySem PySem.W PyProof.Rows PySem.Calls
set_option autoImplicit false
set_option maxRecDepth 100000
namespace Mine.Internal

noncomputable def Flown (X : Bx) (l : List Env) (m : Str → Option Value) (s : Shared) (ρ : Rho) (c : Nat) (σ' : Hp) (e : Addr) (s' : Shared) : Prop :=
  (∃ h' tk', s' = { s with heap := h', toks := tk' }) ∧
   ∃ B ρ' t, Heap.FlyingW B l e (.ref c) (.ref t) s'.heap ∧ ∀ h', B.StaysIn h' → s'.heap.UpToSlots h' → After X m s ρ { s with heap := h' } ρ' σ'
noncomputable def Raised (X : Bx) (l : List Env) (m : Str → Option Value) (s : Shared) (ρ : Rho) (c : Nat) (σ' : Hp) (e : Addr) (s' : Shared) : Prop :=
  Flown X l m s ρ c σ' e s' ∨ ∃ ρ', After X m s ρ s' ρ' σ' ∧ Side X s ρ' s'.heap e ∧ ∃ oe vs t, s'.heap.get? e = some oe ∧ oe.cls = .ref c ∧ oe.data = .fields vs ∧ vs[1]? = some .none ∧ vs[0]? = some (.ref t)

noncomputable def Cont {α β : Type} (X : Bx) (l : List Env) (m : Str → Option Value) (s : Shared) (ρ : Rho) (out : R α) (Rv : Heap → Rho → α → β → Prop) (Q : β → Shared → Prop) (E : Value → Shared → Prop) : Prop :=
  match out with
  | .ok a σ' => ∀ b s' ρ', After X m s ρ s' ρ' σ' → Rv s'.heap ρ' a b → Q b s'
  | .ex c _ σ' => ∀ e s', Flown X l m s ρ c σ' e s' → E (.ref e) s'
  | .no => False

section
variable {X : Bx} {l : List Env} {m : Str → Option Value} {s s₁ s' : Shared} {ρ ρ₁ : Rho} {σ₁ : Hp} {α β γ : Type}
theorem Flown.trans {m' : Str → Option Value} {c : Nat} {σ' : Hp} {e : Addr} (a : After X m' s ρ s₁ ρ₁ σ₁) (x : Flown X l m s₁ ρ₁ c σ' e s') : Flown X l m s ρ c σ' e s' := by
  obtain ⟨⟨h', tk', e1⟩, B, ρ', t, y, z⟩ := x
  obtain ⟨h1, t1, rfl⟩ := a.eq
  refine ⟨⟨h', tk', e1⟩, B, ρ', t, y, fun h k u => ?_⟩
  have z := a.trans (z h k u)
  exact ⟨⟨h, s.toks, rfl⟩, ⟨z.at_.fr, z.at_.rel, z.at_.out, z.at_.apart, z.at_.bad⟩, z.ext⟩
theorem Raised.trans' {m' : Str → Option Value} {c : Nat} {σ' : Hp} {e : Addr} (a : After X m' s ρ s₁ ρ₁ σ₁) (x : Raised X l m s₁ ρ₁ c σ' e s') : Raised X l m s ρ c σ' e s' := by
  rcases x with x | ⟨ρ', y, S, o⟩
  · exact .inl (x.trans a)
  · exact .inr ⟨ρ', a.trans y, S.pre a.at_ a, o⟩

theorem Cont.after {out : R α} {Rv : Heap → Rho → α → β → Prop} {Q : β → Shared → Prop} {E : Value → Shared → Prop} (a : After X m s ρ s₁ ρ₁ σ₁) (C : Cont X l m s ρ out Rv Q E) : Cont X l m s₁ ρ₁ out Rv Q E := by
  cases out with
  | ok v σ' => exact fun b s' ρ' x y => C b s' ρ' (a.trans x) y
  | ex c mv σ' => exact fun e s' x => C e s' (x.trans a)
  | no => exact C

theorem Cont.bind {x : R α} {k : α → Hp → R γ} {δ : Type} {RvA : Heap → Rho → α → δ → Prop} {Rv : Heap → Rho → γ → β → Prop} {Q : β → Shared → Prop} {Q' : δ → Shared → Prop} {E : Value → Shared → Prop}
    (C : Cont X l m s ρ (x.bind k) Rv Q E)
    (h : ∀ a σ' b s' ρ', x = .ok a σ' → After X m s ρ s' ρ' σ' → RvA s'.heap ρ' a b → Cont X l m s' ρ' (k a σ') Rv Q E → Q' b s') : Cont X l m s ρ x RvA Q' E := by
  cases x with
  | ok v σ' => exact fun b s' ρ' a y => h v σ' b s' ρ' rfl a y (Cont.after a C)
  | ex c mv σ' => exact C
  | no => exact C

theorem Cont.lift {o : Option V} {σ : Hp} {Rv : Heap → Rho → V → β → Prop} {Q : β → Shared → Prop} {E : Value → Shared → Prop} (C : Cont X l m s ρ (lift o σ) Rv Q E) : ∃ v, o = some v ∧ Cont X l m s ρ (.ok v σ) Rv Q E := by
  cases o with
  | none => exact False.elim C
  | some v => exact ⟨v, rfl, C⟩
theorem Cont.if_ {c : Prop} [Decidable c] {x : R α} {Rv : Heap → Rho → α → β → Prop} {Q : β → Shared → Prop} {E : Value → Shared → Prop} (C : Cont X l m s ρ (if c then x else .no) Rv Q E) : c ∧ Cont X l m s ρ x Rv Q E := by
  by_cases h : c
  · rw [if_pos h] at C; exact ⟨h, C⟩
  · rw [if_neg h] at C; exact False.elim C
theorem Cont.ok {a : α} {σ : Hp} {Rv : Heap → Rho → α → β → Prop} {Q : β → Shared → Prop} {E : Value → Shared → Prop} (at_ : At X m s ρ σ) (C : Cont X l m s ρ (.ok a σ) Rv Q E) {b : β} (y : Rv s.heap ρ a b) : Q b s :=
  C b s ρ (.refl at_) y
theorem Cont.okT {a : α} {σ : Hp} {Rv : Heap → Rho → α → β → Prop} {Q : β → Shared → Prop} {E : Value → Shared → Prop} (at_ : At X m s ρ σ) (C : Cont X l m s ρ (.ok a σ) Rv Q E) {b : β} {tk : Nat} (y : Rv s.heap ρ a b) : Q b { s with toks := tk } :=
  C b _ ρ (.toks at_ tk) y
end

structure EnvOK (X : Bx) (env : Env) (kd : Kd) : Prop where
  kind : env.scope.kind = .function
  glob : env.globals = mainGlobals
  kd : ∀ x, env.kindOf x = kd x
  frame : env.frame = some X.L
  bltn : env.builtins = builtinsNs

structure Loc (X : Bx) (env : Env) (m : Str → Option Value) (h : Heap) (ρ : Rho) (f : Fr') : Prop where
  loc : ∃ mC, (env.locals = X.L ∧ mC = m ∨ env.locals ∉ X.fa ∧ (∀ p ∈ ρ, p.2 ≠ env.locals) ∧ h.Ns env.locals mC) ∧
    ∀ x v, lk x f.loc = some v → ∃ s w, nm[x]? = some s ∧ mC s = some w ∧ VR X.G h ρ v w
  cel : CelRel ρ f.cel env.cells

section
variable {X : Bx} {env : Env} {m : Str → Option Value} {s s' : Shared} {ρ ρ' : Rho} {σ σ' : Hp} {f : Fr'}
theorem Loc.after (c : Loc X env m s.heap ρ f) (a : At X m s ρ σ) (x : After X m s ρ s' ρ' σ') : Loc X env m s'.heap ρ' f := by
  obtain ⟨⟨mC, hl, hv⟩, hc⟩ := c
  refine ⟨⟨mC, ?_, fun y v e => ?_⟩, hc.mono fun zz zz e => x.ext.get e⟩
  · rcases hl with hl | ⟨h1, h2, o, es, ep, e, r⟩
    · exact .inl hl
    · refine .inr ⟨h1, fun p hp q => ?_, o, es, ep, x.ext.keep _ _ e (fun p hp => h2 p hp) h1, r⟩
      obtain ⟨t, e1, ht⟩ := x.ext.pre
      rw [e1] at hp
      rcases List.mem_append.mp hp with hp | hp
      · exact h2 p hp q
      · have := ht p hp; rw [q, e] at this; cases this
  · obtain ⟨z, w, e1, e2, e3⟩ := hv y v e
    exact ⟨z, w, e1, e2, x.vr a e3⟩
theorem Loc.ns (c : Loc X env m s.heap ρ f) (a : At X m s ρ σ) : ∃ mC, s.heap.Ns env.locals mC ∧ ∀ x v, lk x f.loc = some v → ∃ z w, nm[x]? = some z ∧ mC z = some w ∧ VR X.G s.heap ρ v w := by
  obtain ⟨⟨mC, hl, hv⟩, zz⟩ := c
  refine ⟨mC, ?_, hv⟩
  rcases hl with ⟨h1, h2⟩ | ⟨_, _, h3⟩
  · rw [h1, h2]; exact a.fr.ns
  · exact h3
end

structure Pg where
  prog : Program
  w : World
  p : Program
  loose : List Str
  mean : ExcName → Option Value
  mg : Str → Option Value
  mb : Str → Option Value
  K : Frag
  kOf : Nat → FuncData → Prop

noncomputable def Outer : List Env → List (Addr × Obj) → Prop
  | [], [] => True
  | e :: es, q :: qs => (e.frame = some q.1 ∧ e.scope.kind = .function) ∧ Outer es qs
  | _, _ => False

structure Gr (g : Pg) (A : Around) (X : Bx) (fenv : Env) (outer : List Env) (dep : Nat) : Prop where
  K : X.G.K.In X.h₀
  T : Top g.p g.loose g.mean g.mg g.mb X.h₀
  scr : X.h₀.IsList X.G.sa X.G.sv.toArray
  fr : A.frames = some (fenv :: outer)
  ff : fenv.frame = some X.L
  fk : fenv.scope.kind = .function
  out : Outer outer X.frs
  hh : A.handled = none
  depth : A.depth ≤ 302 + 2 * dep
  units : A.units ≤ 20 + 8 * dep
  few : dep ≤ 60
  kk : X.G.K = g.K ∧ X.kOf = g.kOf

-- a plain value of the top
mutual
noncomputable def GV (K : Frag) (v : V) (w : Value) : Prop := match v with
  | .int i => ∃ t, w = .int i t
  | .str l => ∃ t, w = .str ⟨l.toArray⟩ t
  | .top a => w = .ref a
  | .tup vs => ∃ a ws o, w = .ref a ∧ K.lookup a = some o ∧ (o.cls = .type "tuple" ∧ ∃ n, o.data = .seq ws.toArray n) ∧ GVs K vs ws
  | _ => False
noncomputable def GVs (K : Frag) (vs : List V) (ws : List Value) : Prop := match vs with
  | [] => ws = []
  | v :: vs => ∃ w r, ws = w :: r ∧ GV K v w ∧ GVs K vs r
end
mutual
theorem GV.vr {G : Gd} {K : Frag} {h : Heap} {ρ : Rho} (X : K.In h) (nb : ∀ a o, K.lookup a = some o → ¬ G.bad a) : ∀ (v : V) (w : Value), GV K v w → VR G h ρ v w
  | .int _ => fun zz x => x
  | .str _ => fun zz x => x
  | .top _ => fun zz x => x
  | .tup vs => fun zz x => by
    obtain ⟨a, ws, o, e, ho, hc, r⟩ := x
    exact ⟨a, ws, e, ⟨⟨o, X _ _ ho, hc⟩, nb _ _ ho⟩, GVs.vrs X nb vs _ r⟩
  | .none => fun zz x => False.elim x
  | .bool _ => fun zz x => False.elim x
  | .lst _ => fun zz x => False.elim x
  | .rng _ => fun zz x => False.elim x
  | .ref _ => fun zz x => False.elim x
theorem GVs.vrs {G : Gd} {K : Frag} {h : Heap} {ρ : Rho} (X : K.In h) (nb : ∀ a o, K.lookup a = some o → ¬ G.bad a) : ∀ (v : List V) (w : List Value), GVs K v w → VRs G h ρ v w
  | [] => fun zz x => by obtain rfl : _ = [] := x; trivial
  | v :: vs => fun zz x => by
    obtain ⟨w, r, rfl, a, x⟩ := x
    exact ⟨GV.vr X nb v w a, GVs.vrs X nb vs r x⟩
end
end Mine.Internal
end

section
open PySem PySem.W PyProof.Rows PySem.Calls
set_option autoImplicit false
set_option maxRecDepth 100000
namespace Mine.Internal

theorem nm_debug : (nm.all fun x => (x == ("__debug__" : Str)) == false && (x == ("__classdict__" : Str)) == false) = true := by decide +kernel
theorem nm_nd {i : Nat} {x : Str} (h : nm[i]? = some x) : (x == ("__debug__" : Str)) = false ∧ (x == ("__classdict__" : Str)) = false := by
  have := List.all_eq_true.mp nm_debug x (List.mem_of_getElem? h)
  simpa using this
theorem nm_nodup : nm.Nodup := by decide +kernel
theorem nm_inj {i j : Nat} {x : Str} (h : nm[i]? = some x) (h' : nm[j]? = some x) : i = j :=
  (List.getElem?_inj (List.getElem?_eq_some_iff.mp h).1 nm_nodup).mp (h.trans h'.symm)

theorem TrE.props {kd : Kd} {e : Expr} {t : T} (h : TrE kd e t) : Plain e (isTst t) := by
  cases t <;> exact h.1
theorem TrE.star {kd : Kd} {e : Expr} {t : T} (h : TrE kd e t) (rest : List Expr) (env : Env) : starEach (e :: rest) env = (false, eval e env) :: starEach rest env := h.props.star rest env
theorem TrE.inMarks {kd : Kd} {e : Expr} {t : T} (h : TrE kd e t) (o : CmpOp) : behindInMarks o e = false := h.props.inMarks o
theorem TrE.folded {kd : Kd} {e : Expr} {t : T} (h : TrE kd e t) (env : Env) (x : Value) : foldedSetIterable e env x = pure x := h.props.folded env x
theorem TrEs.inv {kd : Kd} {es : List Expr} {t : T} {ts : List T} (h : TrEs kd es (t :: ts)) : ∃ e r, es = e :: r ∧ TrE kd e t ∧ TrEs kd r ts := h
theorem TrEs.inv0 {kd : Kd} {es : List Expr} (h : TrEs kd es []) : es = [] := h

variable {g : Pg} {P : Tab}

structure TabE (g : Pg) (P : Tab) (K : Frag) : Prop where
  glob : ∀ x v, P.glob x = some v → ∃ s w, nm[x]? = some s ∧ nsIn K mainGlobals s = some (some w) ∧ GV K v w
  bi : ∀ b, nsIn K mainGlobals (biName b) = some none
  zip : nsIn K mainGlobals ("zip" : Str) = some none

noncomputable def SE (g : Pg) (r : Rec) : Prop :=
  ∀ (t : T) (f : Fr') (σ : Hp) (kd : Kd) (e : Expr) (A : Around) (X : Bx) (env fenv : Env) (outer : List Env) (m : Str → Option Value) (s : Shared) (ρ : Rho) (Q E : Value → Shared → Prop),
    TrE kd e t → Gr g A X fenv outer f.dep → EnvOK X env kd → At X m s ρ σ → Loc X env m s.heap ρ f → 0 < s.toks →
    Cont X (fenv :: outer) m s ρ (r.ev t f σ) (fun h ρ v w => VR X.G h ρ v w) (fun w s' => s.toks ≤ s'.toks → Q w s') E → wpAny (model g.prog g.w) A (eval e env) Q E s

section
variable {r : Rec} {f : Fr'} {σ : Hp} {kd : Kd} {A : Around} {X : Bx} {env fenv : Env} {outer : List Env} {m : Str → Option Value} {s : Shared} {ρ : Rho} {Q E : Value → Shared → Prop}

theorem E_none {k p} (a : At X m s ρ σ) (C : Cont X (fenv :: outer) m s ρ (R.ok V.none σ) (fun h ρ v w => VR X.G h ρ v w) Q E) : wpAny (model g.prog g.w) A (eval (.Constant .none k p) env) Q E s :=
  wpAny_pure (a := Value.none) (C.ok a rfl)
theorem E_bool {b k p} (a : At X m s ρ σ) (C : Cont X (fenv :: outer) m s ρ (R.ok (V.bool b) σ) (fun h ρ v w => VR X.G h ρ v w) Q E) : wpAny (model g.prog g.w) A (eval (.Constant (.bool b) k p) env) Q E s :=
  wpAny_pure (a := Value.bool b) (C.ok a rfl)
theorem E_int {i k p} (a : At X m s ρ σ) (C : Cont X (fenv :: outer) m s ρ (R.ok (V.int i) σ) (fun h ρ v w => VR X.G h ρ v w) Q E) : wpAny (model g.prog g.w) A (eval (.Constant (.int i) k p) env) Q E s :=
  wpAny_Constant_int (C.okT a (⟨_, rfl⟩))
theorem E_str {x : Str} {k p} (a : At X m s ρ σ) (C : Cont X (fenv :: outer) m s ρ (R.ok (V.str x.cps.toList) σ) (fun h ρ v w => VR X.G h ρ v w) Q E) : wpAny (model g.prog g.w) A (eval (.Constant (.str x) k p) env) Q E s :=
  Constant_str (C.okT a (⟨_, rfl⟩))
theorem E_var {x : Str} {p} {i : Nat} (hx : nm[i]? = some x) (hk : kd x = some .local) (V : EnvOK X env kd) (a : At X m s ρ σ) (c : Loc X env m s.heap ρ f)
    (C : Cont X (fenv :: outer) m s ρ (lift (lk i f.loc) σ) (fun h ρ v w => VR X.G h ρ v w) Q E) : wpAny (model g.prog g.w) A (eval (.Name x p) env) Q E s := by
  obtain ⟨mC, hn, hv⟩ := c.ns a
  cases e : lk i f.loc with
  | none => rw [e] at C; exact C.elim
  | some v =>
    rw [e] at C
    obtain ⟨z, w, e1, e2, e3⟩ := hv i v e
    rw [hx] at e1; cases e1
    exact wpAny_Name (wpAny_loadName_local V.kind ((V.kd x).trans hk) hn e2 (Cont.ok a C e3)) (nm_nd hx).1
theorem E_glob {x : Str} {p} {i : Nat} (Y : TabE g P X.G.K) (hx : nm[i]? = some x) (hk : kd x = some .globalImplicit) (V : EnvOK X env kd) (γ : Gr g A X fenv outer f.dep) (a : At X m s ρ σ)
    (C : Cont X (fenv :: outer) m s ρ (lift (P.glob i) σ) (fun h ρ v w => VR X.G h ρ v w) Q E) : wpAny (model g.prog g.w) A (eval (.Name x p) env) Q E s := by
  cases e : P.glob i with
  | none => rw [e] at C; exact C.elim
  | some v =>
    rw [e] at C
    obtain ⟨z, w, e1, e2, e3⟩ := Y.glob i v e
    rw [hx] at e1; cases e1
    exact Name_function_global V.kind ((V.kd x).trans hk) (loadGlobal_global (env := env) (by rw [V.glob]; exact γ.T.g.keeps a.fr.keep) (mg_of γ.K γ.T.g e2) (Cont.ok a C (e3.vr (γ.K.keeps a.fr.keep) fun zz zz e => a.nbad₀ (γ.K _ _ e)))) (nm_nd hx).1
theorem E_cell {x : Str} {p} {i : Nat} (hx : nm[i]? = some x) (hk : kd x = some .cell ∨ kd x = some .free) (V : EnvOK X env kd) (a : At X m s ρ σ) (c : Loc X env m s.heap ρ f)
    (C : Cont X (fenv :: outer) m s ρ (match lk i f.cel with | some n => (match σ[n]? with | some (.cell (some v)) => R.ok v σ | _ => .no) | none => .no) (fun h ρ v w => VR X.G h ρ v w) Q E) : wpAny (model g.prog g.w) A (eval (.Name x p) env) Q E s := by
  cases e : lk i f.cel with
  | none => rw [e] at C; exact C.elim
  | some n =>
    rw [e] at C
    obtain ⟨z, q, e1, e2, e3⟩ := c.cel i n e
    rw [hx] at e1; cases e1
    dsimp only at C
    split at C
    · rename_i v hv
      have ho := a.rel.at hv e2
      obtain ⟨hq, o, w, ho1, ho2, ho3⟩ := ho
      cases w with
      | none => exact ho3.elim
      | some w =>
        refine wpAny_Name ?_ (nm_nd hx).1
        rcases hk with hk | hk
        · exact wpAny_loadName_cell V.kind ((V.kd x).trans hk) e3 ⟨o, ho1, ho2⟩ (Cont.ok a C ho3)
        · exact wpAny_loadName_free V.kind ((V.kd x).trans hk) e3 ⟨o, ho1, ho2⟩ (Cont.ok a C ho3) (nm_nd hx).2
    · exact C.elim
end
end Mine.Internal
end

section
open PySem PySem.W PyProof.Rows PySem.Calls
set_option autoImplicit false
set_option maxRecDepth 100000
namespace Mine.Internal

theorem str_app (a b : List Nat) : ((⟨a.toArray⟩ : Str) ++ (⟨b.toArray⟩ : Str)) = ⟨(a ++ b).toArray⟩ := by
  apply PySem.Str.ext'
  simp [PySem.Str.cps_append]
theorem str_len (a : List Nat) : (⟨a.toArray⟩ : Str).length = a.length := by simp [PySem.Str.length]
theorem lim_line {n : Nat} (h : n ≤ LIM) : n ≤ sizeLine := by
  rw [sizeLine_eq]; unfold LIM at h; exact om4 ‹_› rfl
theorem str_beq (a b : List Nat) : ((⟨a.toArray⟩ : Str) == (⟨b.toArray⟩ : Str)) = decide (a = b) := by
  by_cases h : a = b
  · subst h; simp
  · rw [decide_eq_false h]
    cases e : ((⟨a.toArray⟩ : Str) == (⟨b.toArray⟩ : Str)) with
    | false => rfl
    | true =>
      have := beq_iff_eq.mp e
      exact absurd (congrArg Array.toList (PySem.Str.mk.inj this)) h

theorem bits_le {n : Nat} (h : n < 18446744073709551616) : n.log2 + 1 ≤ 64 := by
  by_cases h0 : n = 0
  · subst h0; decide
  · have : n.log2 < 64 := (Nat.log2_lt h0).mpr (by simpa using h)
    exact Nat.succ_le_of_lt ‹_›

variable {g : Pg} {P : Tab}
section
variable {A : Around} {X : Bx} {l : List Env} {m : Str → Option Value} {s : Shared} {ρ : Rho} {σ : Hp} {Q E : Value → Shared → Prop}
noncomputable abbrev VRc (X : Bx) : Heap → Rho → V → Value → Prop := fun h ρ v w => VR X.G h ρ v w

theorem vr_int {G : Gd} {h : Heap} {ρ : Rho} (i : Int) {t : Nat} : VR G h ρ (.int i) (.int i t) := ⟨t, rfl⟩
theorem vr_str {G : Gd} {h : Heap} {ρ : Rho} (l : List Nat) {t : Nat} : VR G h ρ (.str l) (.str ⟨l.toArray⟩ t) := ⟨t, rfl⟩
noncomputable def bopR : Bop → Operator | .add => .Add | .sub => .Sub | .mul => .Mult | .fdiv => .FloorDiv | .mod => .Mod | .pow => .Pow
theorem bop_inv {o : Operator} {o' : Bop} (h : bopOf o = some o') : o = bopR o' := by
  cases o <;> first | exact no_some h | (cases h; rfl)
theorem binV_inv {o : Bop} {v : V} {P : V → V → Prop} {a b : V} (e : binV o a b = some v) (hi : ∀ x y, P (.int x) (.int y)) (hs : o = .add → ∀ x y, P (.str x) (.str y)) : P a b := by
  cases a with
  | int x => cases b with
    | int y => exact hi _ _
    | _ => exact no_some e
  | str x => cases b with
    | str y => cases o with
      | add => exact hs rfl _ _
      | _ => exact no_some e
    | _ => exact no_some e
  | _ => exact no_some e
theorem bin_int {o : Operator} {o' : Bop} {x y : Int} {wa wb : Value} (ho : bopOf o = some o') (a : At X m s ρ σ) (Va : VR X.G s.heap ρ (.int x) wa) (Vb : VR X.G s.heap ρ (.int y) wb)
    (C : Cont X l m s ρ (lift (binV o' (.int x) (.int y)) σ) (VRc X) Q E) : wpAny (model g.prog g.w) A (binaryOp o wa wb) Q E s := by
  obtain rfl := bop_inv ho
  clear ho
  obtain ⟨t, rfl⟩ := Va
  obtain ⟨u, rfl⟩ := Vb
  cases o' with
  | add => exact add_int (C.okT a (vr_int _))
  | sub => exact sub_int (C.okT a (vr_int _))
  | mul =>
    by_cases hb : y.natAbs < 18446744073709551616
    · rw [show binV .mul (.int x) (.int y) = some (.int (x * y)) from if_pos hb] at C
      refine mul_int (C.okT a (vr_int _)) (IntMulOk.of_right ?_)
      unfold Builtin.Int.intBits
      split
      · exact Nat.zero_le _
      · exact bits_le hb
    · rw [show binV .mul (.int x) (.int y) = none from if_neg hb] at C; exact C.elim
  | fdiv =>
    by_cases hb : y = 0 ∨ 1073741824 ≤ y.natAbs
    · rw [show binV .fdiv (.int x) (.int y) = none from if_pos hb] at C; exact C.elim
    · rw [show binV .fdiv (.int x) (.int y) = some (.int (x.fdiv y)) from if_neg hb] at C
      rw [not_or] at hb
      exact floordiv_int hb.1 (C.okT a (vr_int _)) (Or.inl (PyProof.noPylong_small (Nat.not_le.mp hb.2)))
  | mod =>
    by_cases hb : y = 0
    · rw [show binV .mod (.int x) (.int y) = none from if_pos hb] at C; exact C.elim
    · rw [show binV .mod (.int x) (.int y) = some (.int (x.fmod y)) from if_neg hb] at C
      exact mod_int hb (C.okT a (vr_int _))
  | pow =>
    by_cases hb : 0 ≤ y ∧ y ≤ 64 ∧ x = 10
    · rw [show binV .pow (.int x) (.int y) = some (.int (x ^ y.toNat)) from if_pos hb] at C
      obtain ⟨h0, h1, rfl⟩ := hb
      refine pow_int h0 ?_ (C.okT a (vr_int _))
      have : Builtin.Int.intBits 10 = 4 := by decide +kernel
      rw [this]; omega
    · rw [show binV .pow (.int x) (.int y) = none from if_neg hb] at C; exact C.elim
theorem bin_ok {o : Operator} {o' : Bop} {va vb : V} {wa wb : Value} (ho : bopOf o = some o') (a : At X m s ρ σ) (Va : VR X.G s.heap ρ va wa) (Vb : VR X.G s.heap ρ vb wb)
    (C : Cont X l m s ρ (lift (binV o' va vb) σ) (VRc X) Q E) : wpAny (model g.prog g.w) A (binaryOp o wa wb) Q E s := by
  cases e : binV o' va vb with
  | none => rw [e] at C; exact C.elim
  | some v =>
    refine binV_inv (P := fun va vb => VR X.G s.heap ρ va wa → VR X.G s.heap ρ vb wb → Cont X l m s ρ (lift (binV o' va vb) σ) (VRc X) Q E → wpAny (model g.prog g.w) A (binaryOp o wa wb) Q E s) e (fun x y => bin_int ho a) (fun ha x y Va Vb C => ?_) Va Vb C
    · clear e
      subst ha
      obtain rfl : o = .Add := bop_inv ho
      obtain ⟨t, rfl⟩ := Va; obtain ⟨u, rfl⟩ := Vb
      by_cases hb : x.length + y.length ≤ LIM
      · rw [show binV .add (.str x) (.str y) = some (.str (x ++ y)) from if_pos hb] at C
        refine add_str (fun t' tk => ?_) (by rw [str_len, str_len]; exact lim_line hb)
        rw [str_app]
        exact C.okT a (vr_str _)
      · rw [show binV .add (.str x) (.str y) = none from if_neg hb] at C; exact C.elim


theorem neg_ok {va : V} {wa : Value} (a : At X m s ρ σ) (Va : VR X.G s.heap ρ va wa)
    (C : Cont X l m s ρ (match va with | .int i => R.ok (V.int (-i)) σ | _ => .no) (VRc X) Q E) : wpAny (model g.prog g.w) A (unaryOp .USub wa) Q E s := by
  split at C
  · obtain ⟨t, rfl⟩ := Va
    exact neg_int (C.okT a (⟨_, rfl⟩))
  · exact C.elim
end
end Mine.Internal
end

section
open PySem PySem.W PyProof.Rows PySem.Calls PySem.SeqAt
set_option autoImplicit false
set_option maxRecDepth 100000
namespace Mine.Internal

theorem beq_dec {α : Type} [BEq α] [LawfulBEq α] [DecidableEq α] (a b : α) : (a == b) = decide (a = b) := by
  by_cases h : a = b
  · subst h; simp
  · rw [decide_eq_false h]; exact beq_eq_false_iff_ne.mpr h
theorem VRs.length {G : Gd} {h : Heap} {ρ : Rho} : ∀ {vs : List V} {ws : List Value}, VRs G h ρ vs ws → vs.length = ws.length
  | [], [], _ => rfl
  | _ :: _, _ :: _, x => congrArg (· + 1) (VRs.length x.2)
  | [], _ :: _, x => False.elim x
  | _ :: _, [], x => False.elim x
theorem VRs.get {G : Gd} {h : Heap} {ρ : Rho} : ∀ {vs : List V} {ws : List Value}, VRs G h ρ vs ws → ∀ (j : Nat) (v : V), vs[j]? = some v → ∃ w, ws[j]? = some w ∧ VR G h ρ v w
  | [], [], _, j, v, e => by simp at e
  | a :: r, b :: q, x, 0, v, e => by cases e; exact ⟨b, rfl, x.1⟩
  | a :: r, b :: q, x, j + 1, v, e => VRs.get x.2 j v e
  | [], _ :: _, x, _, _, _ => False.elim x
  | _ :: _, [], x, _, _, _ => False.elim x

theorem eqps_len {f : V → V → Option Bool} {a : List V} : ∀ {b : List V} {k : Bool}, eqps f a b = some k → a.length = b.length := by
  induction a with
  | nil => intro b k e; rw [(eqps_nil e).1]
  | cons x r ih =>
    intro b k e
    obtain ⟨y, q, zz, zz, rfl, -, e2, -⟩ := eqps_cons e
    exact congrArg (· + 1) (ih e2)
noncomputable def eqAt (f : V → V → Option Bool) (a b : List V) (j : Nat) : Bool := match a[j]?, b[j]? with | some x, some y => (f x y).getD false | _, _ => false
theorem eqAt_of {f : V → V → Option Bool} {a b : List V} {j : Nat} {k : Bool} (h1 : j < a.length) (h2 : j < b.length) (h : f a[j] b[j] = some k) : eqAt f a b j = k := by
  unfold eqAt
  rw [List.getElem?_eq_getElem h1, List.getElem?_eq_getElem h2]
  exact congrArg (·.getD false) h
theorem eqps_all {f : V → V → Option Bool} {a : List V} : ∀ {b : List V} {k : Bool}, eqps f a b = some k →
    (∀ j (h1 : j < a.length) (h2 : j < b.length), (f a[j] b[j]).isSome = true) ∧ k = (List.range a.length).all (eqAt f a b) := by
  induction a with
  | nil => intro b k e; exact ⟨fun j h1 => absurd h1 (Nat.not_lt_zero _), (eqps_nil e).2.symm⟩
  | cons x r ih =>
    intro b k e
    obtain ⟨y, q, b1, b2, rfl, e1, e2, rfl⟩ := eqps_cons e
    obtain ⟨h1, h2⟩ := ih e2
    refine ⟨fun j g1 g2 => ?_, ?_⟩
    · cases j with
      | zero => exact (congrArg Option.isSome e1 : (f x y).isSome = true)
      | succ j => exact h1 j (Nat.lt_of_succ_lt_succ g1) (Nat.lt_of_succ_lt_succ g2)
    · rw [h2, List.length_cons, List.range_succ_eq_map, List.all_cons, List.all_map]
      have : eqAt f (x :: r) (y :: q) 0 = b1 := (congrArg (·.getD false) e1 : (f x y).getD false = b1)
      rw [this]
      rfl

section
variable {G : Gd} {h : Heap} {ρ : Rho}
theorem tup_ws {a : Addr} {ws ws' : List Value} (x : IsTup h a ws.toArray) (y : IsTup h a ws'.toArray) : ws = ws' := by
  obtain ⟨o, e, zz, n, d⟩ := x
  obtain ⟨o', e', zz, n', d'⟩ := y
  rw [e] at e'; cases e'
  rw [d] at d'
  injection d' with h1
  exact congrArg Array.toList h1
theorem eqp_inv {n : Nat} {a b : V} {k : Bool} {P : V → V → Bool → Prop} (e : eqp n a b = some k) (hi : ∀ x y : Int, P (.int x) (.int y) (decide (x = y))) (hs : ∀ x y : List Nat, P (.str x) (.str y) (decide (x = y)))
    (ht : ∀ m x y k, n = m + 1 → eqps (eqp m) x y = some k → P (.tup x) (.tup y) k) : P a b k := by
  cases n with
  | zero => exact no_some e
  | succ n =>
    cases a with
    | int x => cases b with
      | int y => cases e; exact hi _ _
      | _ => exact no_some e
    | str x => cases b with
      | str y => cases e; exact hs _ _
      | _ => exact no_some e
    | tup x => cases b with
      | tup y => exact ht _ _ _ _ rfl e
      | _ => exact no_some e
    | _ => exact no_some e
theorem eqps_same {n : Nat} (ih : ∀ (a b : V) (w : Value) (k : Bool), VR G h ρ a w → VR G h ρ b w → eqp n a b = some k → k = true) : ∀ (vs vs' : List V) (ws : List Value) (k : Bool), VRs G h ρ vs ws → VRs G h ρ vs' ws → eqps (eqp n) vs vs' = some k → k = true
  | [], [], _, _, _, _, e => (Option.some.inj e).symm
  | [], _ :: _, _, _, _, _, e => no_some e
  | _ :: _, [], _, _, _, _, e => no_some e
  | v :: vs, v' :: vs', ws, k, r, r', e => by
    cases ws with
    | nil => exact False.elim r
    | cons w ws =>
      have e : (match eqp n v v', eqps (eqp n) vs vs' with | some x, some y => some (x && y) | _, _ => none) = some k := e
      cases e1 : eqp n v v' with
      | none => rw [e1] at e; exact no_some e
      | some x => cases e2 : eqps (eqp n) vs vs' with
        | none => rw [e1, e2] at e; exact no_some e
        | some y =>
          rw [e1, e2] at e
          have := Option.some.inj e
          rw [ih _ _ _ _ r.1 r'.1 e1, eqps_same ih vs vs' ws _ r.2 r'.2 e2] at this
          exact this.symm
theorem eqp_same : ∀ (n : Nat) (a b : V) (w : Value) (k : Bool), VR G h ρ a w → VR G h ρ b w → eqp n a b = some k → k = true
  | 0, _, _, _, _, _, _, e => no_some e
  | n + 1, a, b, w, k, Va, Vb, e => by
    refine eqp_inv (P := fun a b k => VR G h ρ a w → VR G h ρ b w → k = true) e (fun x y Va Vb => ?_) (fun x y Va Vb => ?_) (fun m vs vs' k hn e' Va Vb => ?_) Va Vb
    · skip
      obtain ⟨t, rfl⟩ := Va
      obtain ⟨u, q⟩ := Vb
      cases q; simp
    · skip
      obtain ⟨t, rfl⟩ := Va
      obtain ⟨u, q⟩ := Vb
      injection q with q1
      have := congrArg Array.toList (PySem.Str.mk.inj q1)
      simpa using this
    · obtain rfl : n = m := Nat.succ.inj hn
      obtain ⟨a, ws, rfl, ⟨t, zz⟩, r⟩ := Va
      obtain ⟨a', ws', q, ⟨t', zz⟩, r'⟩ := Vb
      cases q
      cases tup_ws t t'
      exact eqps_same (eqp_same n) _ _ _ _ r r' e'
theorem eq_at {s : Shared} (hs : s.heap = h) : ∀ (n : Nat) (A : Around) (a b : V) (wa wb : Value) (k : Bool), VR G h ρ a wa → VR G h ρ b wb → eqp n a b = some k → A.units + n < cLine → EqAt A s wa wb k
  | 0, _, _, _, _, _, _, _, _, e, _ => no_some e
  | n + 1, A, a, b, wa, wb, k, Va, Vb, e, hu => by
    refine eqp_inv (P := fun a b k => VR G h ρ a wa → VR G h ρ b wb → EqAt A s wa wb k) e (fun x y Va Vb => ?_) (fun x y Va Vb => ?_) (fun m vs vs' k hn e' Va Vb => ?_) Va Vb
    · skip
      obtain ⟨t, rfl⟩ := Va
      obtain ⟨u, rfl⟩ := Vb
      exact (MeetsSeq.EqGives.int _ _ _ _).at A s
    · skip
      obtain ⟨t, rfl⟩ := Va
      obtain ⟨u, rfl⟩ := Vb
      have := (SeqRoads2.EqGives.str ⟨x.toArray⟩ ⟨y.toArray⟩ t u).at A s
      rw [beq_dec] at this
      have e : decide ((⟨x.toArray⟩ : Str).cps.toList = (⟨y.toArray⟩ : Str).cps.toList) = decide (x = y) := rfl
      rw [e] at this; exact this
    · obtain rfl : n = m := Nat.succ.inj hn
      have he0 : eqp (n + 1) (V.tup vs) (V.tup vs') = some k := e'
      have Va0 := Va
      have Vb0 := Vb
      obtain ⟨a, ws, rfl, ⟨t, zz⟩, r⟩ := Va
      obtain ⟨a', ws', rfl, ⟨t', zz⟩, r'⟩ := Vb
      by_cases hne : a = a'
      · subst hne
        rw [eqp_same _ _ _ _ _ Va0 Vb0 he0]
        exact EqAt.same _
      · refine EqAt.of_refs hne ?_
        obtain ⟨h1, h2⟩ := eqps_all e'
        have hl := eqps_len e'
        have hz : ws.length = ws'.length := by rw [← r.length, ← r'.length, hl]
        have := RcAt.tuples (A := A) (s := s) (l := a) (b := a') (items := ws.toArray) (items2 := ws'.toArray) (e := eqAt (eqp n) vs vs')
          (hs ▸ t) (hs ▸ t') (om0 ‹_› rfl) (fun j g1 g2 => by
            have g1' : j < vs.length := by rw [r.length]; simpa using g1
            have g2' : j < vs'.length := by rw [r'.length]; simpa using g2
            obtain ⟨w, e1, V1⟩ := r.get j vs[j] (by simp [g1'])
            obtain ⟨w', e2, V2⟩ := r'.get j vs'[j] (by simp [g2'])
            have q1 : ws.toArray[j] = w := by
              have := (List.getElem?_eq_some_iff.mp e1).2; simpa using this
            have q2 : ws'.toArray[j] = w' := by
              have := (List.getElem?_eq_some_iff.mp e2).2; simpa using this
            rw [q1, q2]
            obtain ⟨k', hk'⟩ := Option.isSome_iff_exists.mp (h1 j g1' g2')
            rw [eqAt_of g1' g2' hk']
            exact eq_at hs n A.in1 _ _ _ _ k' V1 V2 hk' (by rw [Around.in1_units]; omega))
        have e2 : k = ((List.range (min ws.toArray.size ws'.toArray.size)).all (eqAt (eqp n) vs vs') && ws.toArray.size == ws'.toArray.size) := by
          rw [h2, r.length]; simp [hz]
        rw [e2]; exact this
end
end Mine.Internal
end

section
open PySem PySem.W PyProof.Rows PySem.Calls PySem.SeqAt
set_option autoImplicit false
set_option maxRecDepth 100000
namespace Mine.Internal

section
variable {G : Gd} {h : Heap} {ρ : Rho}
theorem eqs_at {s : Shared} (hs : s.heap = h) {n : Nat} {A : Around} {vs vs' : List V} {ws ws' : List Value} {k : Bool} (r : VRs G h ρ vs ws) (r' : VRs G h ρ vs' ws') (e : eqps (eqp n) vs vs' = some k) (hu : A.units + n + 1 < cLine) :
    ∃ f : Nat → Bool, (∀ j (h1 : j < ws.length) (h2 : j < ws'.length), EqAt A.in1 s ws[j] ws'[j] (f j)) ∧ ws.length = ws'.length ∧ k = (List.range ws.length).all f := by
  obtain ⟨h1, h2⟩ := eqps_all e
  have hl := eqps_len e
  have hz : ws.length = ws'.length := by rw [← r.length, ← r'.length, hl]
  refine ⟨eqAt (eqp n) vs vs', fun j g1 g2 => ?_, hz, ?_⟩
  · have g1' : j < vs.length := by rw [r.length]; exact g1
    have g2' : j < vs'.length := by rw [r'.length]; exact g2
    obtain ⟨w, e1, V1⟩ := r.get j vs[j] (by simp [g1'])
    obtain ⟨w', e2, V2⟩ := r'.get j vs'[j] (by simp [g2'])
    have q1 : ws[j] = w := (List.getElem?_eq_some_iff.mp e1).2
    have q2 : ws'[j] = w' := (List.getElem?_eq_some_iff.mp e2).2
    rw [q1, q2]
    obtain ⟨k', hk'⟩ := Option.isSome_iff_exists.mp (h1 j g1' g2')
    rw [eqAt_of g1' g2' hk']
    exact eq_at hs n A.in1 _ _ _ _ k' V1 V2 hk' (by rw [Around.in1_units]; omega)
  · rw [h2, r.length] <;> rfl

theorem rc_p {s : Shared} (hs : s.heap = h) {n : Nat} {A : Around} {a b : V} {wa wb : Value} {k : Bool} (Va : VR G h ρ a wa) (Vb : VR G h ρ b wb) (e : eqp n a b = some k) (hu : A.units + n < cLine) :
    RcAt A s wa wb k ∧ RcNeAt A s wa wb (!k) := by
  refine eqp_inv (P := fun a b k => VR G h ρ a wa → VR G h ρ b wb → RcAt A s wa wb k ∧ RcNeAt A s wa wb (!k)) e (fun x y Va Vb => ?_) (fun x y Va Vb => ?_) (fun m vs vs' k hn e' Va Vb => ?_) Va Vb
  · · skip
      obtain ⟨t, rfl⟩ := Va
      obtain ⟨u, rfl⟩ := Vb
      exact ⟨fun prog w E Q hq => eq_int (by rw [beq_dec]; exact hq), by have := @RcNeAt.int_int A s x t y u; rw [beq_dec] at this; exact this⟩
  · · skip
      obtain ⟨t, rfl⟩ := Va
      obtain ⟨u, rfl⟩ := Vb
      have := @RcNeAt.str_str A s ⟨x.toArray⟩ t ⟨y.toArray⟩ u
      rw [str_beq] at this
      exact ⟨fun prog w E Q hq => eq_str (by rw [str_beq]; exact hq), this⟩
  · · skip
      subst hn
      obtain ⟨a, ws, rfl, ⟨t, zz⟩, r⟩ := Va
      obtain ⟨a', ws', rfl, ⟨t', zz⟩, r'⟩ := Vb
      subst hs
      obtain ⟨f, h1, h2, h3⟩ := eqs_at rfl (A := A) r r' e' (by omega)
      have h4 : k = ((List.range (min ws.toArray.size ws'.toArray.size)).all f && ws.toArray.size == ws'.toArray.size) := by rw [h3]; simp [h2]
      rw [h4]
      exact ⟨RcAt.tuples t t' (om0 ‹_› rfl) fun j g1 g2 => by simpa using h1 j (by simpa using g1) (by simpa using g2), RcNeAt.tuples t t' (om0 ‹_› rfl) fun j g1 g2 => by simpa using h1 j (by simpa using g1) (by simpa using g2)⟩
end
theorem isList_of {G : Gd} {kOf : Nat → FuncData → Prop} {h : Heap} {ρ : Rho} {vs : List V} {p : Addr × Addr} (o : OR G kOf h ρ (.list vs) p) : p.1 = p.2 ∧ ∃ ws : List Value, h.IsList p.2 ws.toArray ∧ VRs G h ρ vs ws := by
  obtain ⟨q, ws, n, e, r⟩ := o
  refine ⟨q, ws.toList, ⟨_, e, rfl, n, ?_⟩, r⟩
  simp [W.listOf]

section
variable {X : Bx} {m : Str → Option Value} {s : Shared} {ρ : Rho} {σ : Hp}
theorem At.list (a : At X m s ρ σ) {n : Nat} {vs : List V} {w : Value} (e : σ[n]? = some (.list vs)) (V : VR X.G s.heap ρ (.ref n) w) :
    ∃ (b : Addr) (ws : List Value), w = .ref b ∧ s.heap.IsList b ws.toArray ∧ VRs X.G s.heap ρ vs ws := by
  obtain ⟨p, hp, rfl⟩ := V
  obtain ⟨q, ws, hl, r⟩ := isList_of (a.rel.at e hp)
  exact ⟨p.1, ws, rfl, by rw [q]; exact hl, r⟩

theorem rc_at (a : At X m s ρ σ) {A : Around} {va vb : V} {wa wb : Value} {k : Bool} (Va : VR X.G s.heap ρ va wa) (Vb : VR X.G s.heap ρ vb wb) (e : eqV σ va vb = some k) (hu : A.units + 5 < cLine) :
    RcAt A s wa wb k ∧ RcNeAt A s wa wb (!k) := by
  rcases eqV_inv e with ⟨m', n', x, y, rfl, rfl, e1, e2, e⟩ | e
  · obtain ⟨b, ws, rfl, hl, r⟩ := a.list e1 Va
    obtain ⟨b', ws', rfl, hl', r'⟩ := a.list e2 Vb
    by_cases hz : x.length = y.length
    · rw [if_pos hz] at e
      obtain ⟨f, h1, h2, h3⟩ := eqs_at rfl (A := A) r r' e ‹_›
      have h4 : k = (List.range ws.toArray.size).all f := by rw [h3]; simp
      rw [h4]
      exact ⟨fun prog w E Q hq => eq_listAt hl hl' (by simpa using h2) (om0 ‹_› rfl) (fun j g1 g2 => by simpa using h1 j (by simpa using g1) (by simpa using g2)) hq,
        RcNeAt.lists hl hl' (by simpa using h2) (om0 ‹_› rfl) fun j g1 g2 => by simpa using h1 j (by simpa using g1) (by simpa using g2)⟩
    · rw [if_neg hz] at e
      cases e
      have hz' : (ws.toArray.size != ws'.toArray.size) = true := by
        rw [r.length, r'.length] at hz; simpa using hz
      exact ⟨fun prog w E Q hq => eq_list_lengthsAt hl hl' hz' (om0 ‹_› rfl) hq, RcNeAt.lists_lengths hl hl' hz' (om0 ‹_› rfl)⟩
  · exact rc_p rfl Va Vb e hu
end
end Mine.Internal
end

section
open PySem PySem.W PyProof.Rows PySem.Calls PySem.SeqAt
set_option autoImplicit false
set_option maxRecDepth 100000
namespace Mine.Internal
theorem dec_comm (a b : List Nat) : decide (a = b) = decide (b = a) := by
  by_cases q : a = b
  · subst q; rfl
  · rw [decide_eq_false q, decide_eq_false (fun z => q z.symm)]
theorem lt1 {x y : Nat} : ([y] : List Nat) < [x] ↔ y < x := by simp [List.cons_lt_cons_iff]
noncomputable def isStr (a : List Nat) : Value → Bool
  | .str z _ => z == ⟨a.toArray⟩
  | _ => false
theorem memStr_at {G : Gd} {h : Heap} {ρ : Rho} {A : Around} {s : Shared} {a : List Nat} {t : Tok} : ∀ {vs : List V} {ws : List Value} {k : Bool}, VRs G h ρ vs ws → memStr a vs = some k →
    (∀ y ∈ ws, EqAt A s y (.str ⟨a.toArray⟩ t) (isStr a y)) ∧ ws.any (isStr a) = k
  | [], [], k, _, e => by cases e; exact ⟨fun zz h => (nomatch h), rfl⟩
  | v :: vs, w :: ws, k, r, e => by
    obtain ⟨b, k', rfl, e', rfl⟩ := memStr_cons e
    · skip
      obtain ⟨h1, h2⟩ := memStr_at (A := A) (s := s) (t := t) r.2 e'
      obtain ⟨r1, zz⟩ := r
      obtain ⟨u, rfl⟩ := r1
      refine ⟨fun y hy => ?_, ?_⟩
      · rcases List.mem_cons.mp hy with rfl | hy
        · have := (SeqRoads2.EqGives.str ⟨b.toArray⟩ ⟨a.toArray⟩ u t).at A s
          rw [beq_dec] at this
          rw [show isStr a (.str ⟨b.toArray⟩ u) = ((⟨b.toArray⟩ : Str) == ⟨a.toArray⟩) from rfl, str_beq]
          exact this
        · exact h1 y hy
      · rw [List.any_cons, h2]
        rw [show isStr a (.str ⟨b.toArray⟩ u) = ((⟨b.toArray⟩ : Str) == ⟨a.toArray⟩) from rfl, str_beq]
        congr 1
        exact dec_comm _ _
  | [], _ :: _, _, r, _ => False.elim r
  | _ :: _, [], _, r, _ => False.elim r

variable {g : Pg} {P : Tab}
section
variable {A : Around} {X : Bx} {m : Str → Option Value} {s : Shared} {ρ : Rho} {σ : Hp} {Q E : Value → Shared → Prop}
theorem inV_inv {σ : Hp} {k : Bool} {P : V → V → Prop} {a b : V} (e : inV σ a b = some k) (h1 : ∀ c l, some (l.contains c) = some k → P (.str [c]) (.str l)) (h2 : ∀ x vs, memStr x vs = some k → P (.str x) (.tup vs))
    (h3 : ∀ x n vs, σ[n]? = some (.list vs) → memStr x vs = some k → P (.str x) (.ref n)) : P a b := by
  cases a with
  | str x => cases b with
    | str l => match x, e with
      | [c], e => exact h1 _ _ e
      | [], e => exact no_some e
      | _ :: _ :: _, e => exact no_some e
    | tup vs => exact h2 _ _ e
    | ref n =>
      have e : (match σ[n]? with | some (.list vs) => memStr x vs | _ => none) = some k := e
      match en : σ[n]?, e with
      | some (.list vs), e => exact h3 _ _ _ en e
      | some (.inst _ _), e => exact no_some e
      | some (.cell _), e => exact no_some e
      | some (.clos _ _), e => exact no_some e
      | none, e => exact no_some e
    | _ => exact no_some e
  | _ => exact no_some e
theorem in_ok (a : At X m s ρ σ) {va vb : V} {wa wb : Value} {k : Bool} (Va : VR X.G s.heap ρ va wa) (Vb : VR X.G s.heap ρ vb wb) (e : inV σ va vb = some k) :
    (Q (.bool k) s → wpAny (model g.prog g.w) A (compareOp .In wa wb) Q E s) ∧ (Q (.bool !k) s → wpAny (model g.prog g.w) A (compareOp .NotIn wa wb) Q E s) := by
  refine inV_inv (P := fun va vb => VR X.G s.heap ρ va wa → VR X.G s.heap ρ vb wb → (Q (.bool k) s → wpAny (model g.prog g.w) A (compareOp .In wa wb) Q E s) ∧ (Q (.bool !k) s → wpAny (model g.prog g.w) A (compareOp .NotIn wa wb) Q E s)) e (fun c l e1 Va Vb => ?_) (fun x vs e1 Va Vb => ?_) (fun x n vs en e1 Va Vb => ?_) Va Vb
  · cases e1
    obtain ⟨t, rfl⟩ := Va
    obtain ⟨u, rfl⟩ := Vb
    have f := StrLaws.found_one ⟨l.toArray⟩ c
    have f' : (!List.isEmpty (Builtin.Str.occurrences (⟨l.toArray⟩ : Str) { cps := #[c] } 0 (Str.length (⟨l.toArray⟩ : Str)) 1)) = l.contains c := by
      rw [f]
      by_cases q : c ∈ l
      · rw [decide_eq_true (by exact q)]; exact (List.contains_iff_mem.mpr q).symm
      · rw [decide_eq_false (by exact q)]; exact (Bool.eq_false_iff.mpr fun z => q (List.contains_iff_mem.mp z)).symm
    exact ⟨fun hq => in_str (by rw [f']; exact hq), fun hq => notIn_str (by rw [f']; exact hq)⟩
  · skip
    obtain ⟨t, rfl⟩ := Va
    obtain ⟨b, ws, rfl, ⟨hl, zz⟩, r⟩ := Vb
    obtain ⟨h1, h2⟩ := memStr_at (A := A.in1) (s := s) (t := t) r e1
    have h1' : ∀ y ∈ ws.toArray, _ := fun y hy => h1 y (List.mem_toArray.mp hy)
    exact ⟨fun hq => in_tupleAt _ hl h1' (by simpa [h2] using hq), fun hq => notIn_tupleAt _ hl h1' (by simpa [h2] using hq)⟩
  · obtain ⟨b, ws, rfl, hl, r⟩ := a.list en Vb
    obtain ⟨t, rfl⟩ := Va
    obtain ⟨h1, h2⟩ := memStr_at (A := A.in1) (s := s) (t := t) r e1
    have h1' : ∀ y ∈ ws.toArray, _ := fun y hy => h1 y (List.mem_toArray.mp hy)
    exact ⟨fun hq => in_listAt _ hl h1' (by simpa [h2] using hq), fun hq => notIn_listAt _ hl h1' (by simpa [h2] using hq)⟩

theorem ltV_inv {o : Cop} {k : Bool} {P : V → V → Prop} {a b : V} (e : ltV o a b = some k) (hi : ∀ x y, ltI o x y = some k → P (.int x) (.int y)) (hs : o = .le → ∀ x y, some (decide (x ≤ y)) = some k → P (.str [x]) (.str [y])) : P a b := by
  cases a with
  | int x => cases b with
    | int y => exact hi _ _ e
    | _ => exact no_some e
  | str x => cases b with
    | str y => cases o with
      | le => match x, y, e with
        | [x], [y], e => exact hs rfl _ _ e
        | [x], [], e => exact no_some e
        | [x], _ :: _ :: _, e => exact no_some e
        | [], _, e => exact no_some e
        | _ :: _ :: _, _, e => exact no_some e
      | _ => exact no_some e
    | _ => exact no_some e
  | _ => exact no_some e
theorem lt_ok {o : CmpOp} {va vb : V} {wa wb : Value} {k : Bool} (Va : VR X.G s.heap ρ va wa) (Vb : VR X.G s.heap ρ vb wb) (e : ltV (copOf o) va vb = some k) (hq : Q (.bool k) s) : wpAny (model g.prog g.w) A (compareOp o wa wb) Q E s := by
  refine ltV_inv (P := fun va vb => VR X.G s.heap ρ va wa → VR X.G s.heap ρ vb wb → wpAny (model g.prog g.w) A (compareOp o wa wb) Q E s) e (fun x y e1 Va Vb => ?_) (fun ho x y e1 Va Vb => ?_) Va Vb
  · skip
    obtain ⟨t, rfl⟩ := Va
    obtain ⟨u, rfl⟩ := Vb
    cases o with
    | Lt => cases e1; exact lt_int hq
    | LtE => cases e1; exact le_int hq
    | Gt => cases e1; exact gt_int hq
    | GtE => cases e1; exact ge_int hq
    | _ => exact no_some e1
  · obtain rfl : o = .LtE := by cases o <;> first | rfl | exact nomatch ho
    cases e1
    obtain ⟨t, rfl⟩ := Va
    obtain ⟨u, rfl⟩ := Vb
    refine P.le_str ?_
    have : (!decide ([y] < [x])) = decide (x ≤ y) := by
      by_cases z : x ≤ y
      · rw [decide_eq_true z, decide_eq_false (fun q => Nat.not_lt.mpr z (lt1.mp q))]; rfl
      · rw [decide_eq_false z, decide_eq_true (lt1.mpr (Nat.not_le.mp z))]; rfl
    exact (congrArg (fun b => Q (.bool b) s) this).mpr hq
theorem map_not {o : Option Bool} {k : Bool} {P : Bool → Prop} (e : o.map (!·) = some k) (h : ∀ k', o = some k' → P (!k')) : P k := by
  cases o with
  | none => exact no_some e
  | some k' => cases e; exact h _ rfl
theorem cmp_ok {o : CmpOp} (a : At X m s ρ σ) {va vb : V} {wa wb : Value} {k : Bool} (Va : VR X.G s.heap ρ va wa) (Vb : VR X.G s.heap ρ vb wb) (e : cmpV σ (copOf o) va vb = some k) (hu : A.units + 5 < cLine)
    (hq : Q (.bool k) s) : wpAny (model g.prog g.w) A (compareOp o wa wb) Q E s := by
  cases o with
  | Eq => exact (rc_at a Va Vb e hu).1 _ _ _ _ hq
  | NotEq => exact map_not (P := fun k => Q (.bool k) s → _) e (fun k' q hq => (rc_at a Va Vb q hu).2 _ _ _ _ hq) hq
  | In => exact (in_ok a Va Vb e).1 hq
  | NotIn => exact map_not (P := fun k => Q (.bool k) s → _) e (fun k' q hq => (in_ok a Va Vb q).2 hq) hq
  | Is => exact no_some e
  | IsNot => exact no_some e
  | _ => exact lt_ok Va Vb e hq
end
end Mine.Internal
end

section
open PySem PySem.W PyProof.Rows PySem.Calls PySem.SeqAt
set_option autoImplicit false
set_option linter.all false
namespace Mine.Internal
theorem cond_f {b : Bool} {p : Prop} (h : b = false) (k : cond b True p) : p := by subst h; exact k
theorem cond_t {b : Bool} {p : Prop} (h : b = true) (k : cond b p True) : p := by subst h; exact k
theorem subs_ok {e : Expr} (h : isSlice e = false) (o i : Value) : subscripted e false o i = operate [o, i] (getItem o i) :=
  cond_f h <| have K := Eq.refl (operate [o, i] (getItem o i)); @Expr.casesOn (fun e => cond (isSlice e) True (subscripted e false o i = operate [o, i] (getItem o i))) e (fun zz zz zz => K) (fun zz zz zz => K) (fun zz zz zz zz => K) (fun zz zz zz => K) (fun zz zz zz zz => K) (fun zz zz zz zz => K) (fun zz zz zz => K) (fun zz zz zz => K) (fun zz zz zz zz => K) (fun zz zz zz zz => K) (fun zz zz zz zz zz => K) (fun zz zz zz zz => K) (fun zz zz => K) (fun zz zz => K) (fun zz zz => K) (fun zz zz zz zz => K) (fun zz zz zz zz => K) (fun zz zz zz zz => K) (fun zz zz => K) (fun zz zz zz => K) (fun zz zz zz => K) (fun zz zz zz => K) (fun zz zz => K) (fun zz zz => K) (fun zz zz => K) (fun zz zz zz => K) (fun zz zz zz zz => trivial)
theorem temp_ok (e : Expr) (x : Str) (t : Tok) (r : Value) : letTemporaryGo e (.str x t) r = pure () :=
  have K : (pure () : Sem Unit) = pure () := rfl; @Expr.casesOn (fun e => letTemporaryGo e (.str x t) r = pure ()) e (fun zz zz zz => K) (fun zz zz zz => K) (fun zz zz zz zz => K) (fun zz zz zz => K) (fun zz zz zz zz => K) (fun zz zz zz zz => K) (fun zz zz zz => K) (fun zz zz zz => K) (fun zz zz zz zz => K) (fun zz zz zz zz => K) (fun zz zz zz zz zz => K) (fun zz zz zz zz => K) (fun zz zz => K) (fun zz zz => K) (fun zz zz => K) (fun zz zz zz zz => K) (fun zz zz zz zz => K) (fun zz zz zz zz => K) (fun zz zz => K) (fun zz zz zz => K) (fun zz zz zz => K) (fun zz zz zz => K) (fun zz zz => K) (fun zz zz => K) (fun zz zz => K) (fun zz zz zz => K) (fun zz zz zz zz => K)
theorem swaps_plain {e : Expr} (h : isComp e = false) (t : Option Expr) (n : Nat) (env : Env) : swapsWith e t n env = pure false :=
  cond_f h <| have K : (pure false : Sem Bool) = pure false := rfl; @Expr.casesOn (fun e => cond (isComp e) True (swapsWith e t n env = pure false)) e (fun zz zz zz => K) (fun zz zz zz => K) (fun zz zz zz zz => K) (fun zz zz zz => K) (fun zz zz zz zz => K) (fun zz zz zz zz => K) (fun zz zz zz => K) (fun zz zz zz => K) (fun zz zz zz zz => trivial) (fun zz zz zz zz => trivial) (fun zz zz zz zz zz => trivial) (fun zz zz zz zz => K) (fun zz zz => K) (fun zz zz => K) (fun zz zz => K) (fun zz zz zz zz => K) (fun zz zz zz zz => K) (fun zz zz zz zz => K) (fun zz zz => K) (fun zz zz zz => K) (fun zz zz zz => K) (fun zz zz zz => K) (fun zz zz => K) (fun zz zz => K) (fun zz zz => K) (fun zz zz zz => K) (fun zz zz zz zz => K)
theorem noSwapT {e : Expr} {a b c} {env : Env} (h : isTupE e = false) : swappedStores [.Tuple a b c] e env = pure none :=
  cond_f h <| have K : (pure none : Sem (Option (List Str))) = pure none := rfl; @Expr.casesOn (fun e => cond (isTupE e) True (swappedStores [.Tuple a b c] e env = pure none)) e (fun zz zz zz => K) (fun zz zz zz => K) (fun zz zz zz zz => K) (fun zz zz zz => K) (fun zz zz zz zz => K) (fun zz zz zz zz => K) (fun zz zz zz => K) (fun zz zz zz => K) (fun zz zz zz zz => K) (fun zz zz zz zz => K) (fun zz zz zz zz zz => K) (fun zz zz zz zz => K) (fun zz zz => K) (fun zz zz => K) (fun zz zz => K) (fun zz zz zz zz => K) (fun zz zz zz zz => K) (fun zz zz zz zz => K) (fun zz zz => K) (fun zz zz zz => K) (fun zz zz zz => K) (fun zz zz zz => K) (fun zz zz => K) (fun zz zz => K) (fun zz zz => K) (fun zz zz zz => trivial) (fun zz zz zz zz => K)
theorem noSwapL {e : Expr} {a b} {env : Env} (h : isTupE e = false) : swappedStores [.List a b] e env = pure none :=
  cond_f h <| have K : (pure none : Sem (Option (List Str))) = pure none := rfl; @Expr.casesOn (fun e => cond (isTupE e) True (swappedStores [.List a b] e env = pure none)) e (fun zz zz zz => K) (fun zz zz zz => K) (fun zz zz zz zz => K) (fun zz zz zz => K) (fun zz zz zz zz => K) (fun zz zz zz zz => K) (fun zz zz zz => K) (fun zz zz zz => K) (fun zz zz zz zz => K) (fun zz zz zz zz => K) (fun zz zz zz zz zz => K) (fun zz zz zz zz => K) (fun zz zz => K) (fun zz zz => K) (fun zz zz => K) (fun zz zz zz zz => K) (fun zz zz zz zz => K) (fun zz zz zz zz => K) (fun zz zz => K) (fun zz zz zz => K) (fun zz zz zz => K) (fun zz zz zz => K) (fun zz zz => K) (fun zz zz => K) (fun zz zz => K) (fun zz zz zz => trivial) (fun zz zz zz zz => K)
theorem noSwap {t e : Expr} {env : Env} (h : isTupE e = false) : swappedStores [t] e env = pure none :=
  have K : (pure none : Sem (Option (List Str))) = pure none := rfl; @Expr.casesOn (fun t => swappedStores [t] e env = pure none) t (fun zz zz zz => K) (fun zz zz zz => K) (fun zz zz zz zz => K) (fun zz zz zz => K) (fun zz zz zz zz => K) (fun zz zz zz zz => K) (fun zz zz zz => K) (fun zz zz zz => K) (fun zz zz zz zz => K) (fun zz zz zz zz => K) (fun zz zz zz zz zz => K) (fun zz zz zz zz => K) (fun zz zz => K) (fun zz zz => K) (fun zz zz => K) (fun zz zz zz zz => K) (fun zz zz zz zz => K) (fun zz zz zz zz => K) (fun zz zz => K) (fun zz zz zz => K) (fun zz zz zz => K) (fun zz zz zz => K) (fun zz zz => K) (fun zz zz => K) (fun zz zz => noSwapL h) (fun zz zz zz => noSwapT h) (fun zz zz zz zz => K)
theorem noSwapN {t e : Expr} {env : Env} (h : isName t = true) : swappedStores [t] e env = pure none :=
  cond_t h <| have K : (pure none : Sem (Option (List Str))) = pure none := rfl; @Expr.casesOn (fun t => cond (isName t) (swappedStores [t] e env = pure none) True) t (fun zz zz zz => trivial) (fun zz zz zz => trivial) (fun zz zz zz zz => trivial) (fun zz zz zz => trivial) (fun zz zz zz zz => trivial) (fun zz zz zz zz => trivial) (fun zz zz zz => trivial) (fun zz zz zz => trivial) (fun zz zz zz zz => trivial) (fun zz zz zz zz => trivial) (fun zz zz zz zz zz => trivial) (fun zz zz zz zz => trivial) (fun zz zz => trivial) (fun zz zz => trivial) (fun zz zz => trivial) (fun zz zz zz zz => trivial) (fun zz zz zz zz => trivial) (fun zz zz zz zz => trivial) (fun zz zz => trivial) (fun zz zz zz => trivial) (fun zz zz zz => trivial) (fun zz zz zz => trivial) (fun zz zz => trivial) (fun zz zz => K) (fun zz zz => trivial) (fun zz zz zz => trivial) (fun zz zz zz zz => trivial)
theorem attr_base {o : Expr} (h : isCall0 o = false) (n : Str) (env : Env) (w : Sem Value) : attributeBase o n env w = w :=
  cond_f h <| have K : w = w := rfl; @Expr.casesOn (fun o => cond (isCall0 o) True (attributeBase o n env w = w)) o (fun zz zz zz => K) (fun zz zz zz => K) (fun zz zz zz zz => K) (fun zz zz zz => K) (fun zz zz zz zz => K) (fun zz zz zz zz => K) (fun zz zz zz => K) (fun zz zz zz => K) (fun zz zz zz zz => K) (fun zz zz zz zz => K) (fun zz zz zz zz zz => K) (fun zz zz zz zz => K) (fun zz zz => K) (fun zz zz => K) (fun zz zz => K) (fun zz zz zz zz => K) (fun f as ks p => @Expr.casesOn (fun f => cond (isCall0 (.Call f as ks p)) True (attributeBase (.Call f as ks p) n env w = w)) f (fun zz zz zz => K) (fun zz zz zz => K) (fun zz zz zz zz => K) (fun zz zz zz => K) (fun zz zz zz zz => K) (fun zz zz zz zz => K) (fun zz zz zz => K) (fun zz zz zz => K) (fun zz zz zz zz => K) (fun zz zz zz zz => K) (fun zz zz zz zz zz => K) (fun zz zz zz zz => K) (fun zz zz => K) (fun zz zz => K) (fun zz zz => K) (fun zz zz zz zz => K) (fun zz zz zz zz => K) (fun zz zz zz zz => K) (fun zz zz => K) (fun zz zz zz => K) (fun zz zz zz => K) (fun zz zz zz => K) (fun zz zz => K) (fun x q => match as, ks with | [], [] => trivial | [], _ :: _ => K | _ :: _, _ => K) (fun zz zz => K) (fun zz zz zz => K) (fun zz zz zz zz => K)) (fun zz zz zz zz => K) (fun zz zz => K) (fun zz zz zz => K) (fun zz zz zz => K) (fun zz zz zz => K) (fun zz zz => K) (fun zz zz => K) (fun zz zz => K) (fun zz zz zz => K) (fun zz zz zz zz => K)
theorem tupE {e : Expr} (h : isTupE e = true) : ∃ a b c, e = .Tuple a b c :=
  cond_t h <| @Expr.casesOn (fun e => cond (isTupE e) (∃ a b c, e = .Tuple a b c) True) e (fun zz zz zz => trivial) (fun zz zz zz => trivial) (fun zz zz zz zz => trivial) (fun zz zz zz => trivial) (fun zz zz zz zz => trivial) (fun zz zz zz zz => trivial) (fun zz zz zz => trivial) (fun zz zz zz => trivial) (fun zz zz zz zz => trivial) (fun zz zz zz zz => trivial) (fun zz zz zz zz zz => trivial) (fun zz zz zz zz => trivial) (fun zz zz => trivial) (fun zz zz => trivial) (fun zz zz => trivial) (fun zz zz zz zz => trivial) (fun zz zz zz zz => trivial) (fun zz zz zz zz => trivial) (fun zz zz => trivial) (fun zz zz zz => trivial) (fun zz zz zz => trivial) (fun zz zz zz => trivial) (fun zz zz => trivial) (fun zz zz => trivial) (fun zz zz => trivial) (fun a b c => ⟨a, b, c, rfl⟩) (fun zz zz zz zz => trivial)
end Mine.Internal
end

section
open PySem PySem.W PyProof.Rows PySem.Calls PySem.SeqAt
set_option autoImplicit false
set_option maxRecDepth 100000
namespace Mine.Internal

theorem seqIndex_nn {i : Int} {n : Nat} (h0 : 0 ≤ i) (h : i < n) : seqIndex? i n = some i.toNat := by
  unfold seqIndex?
  have e : (if i < 0 then i + (n : Int) else i) = i := if_neg (by omega)
  simp only [e]
  rw [if_pos (by simp; omega)]
theorem seqIndex_ng {i : Int} {n : Nat} (h0 : i < 0) (h : 0 ≤ i + n) : seqIndex? i n = some (i + n).toNat := by
  unfold seqIndex?
  have e : (if i < 0 then i + (n : Int) else i) = i + n := if_pos h0
  simp only [e]
  rw [if_pos (by simp; omega)]
theorem seqAt_j {vs : List V} {i : Int} {v : V} (e : seqAt vs i = some v) : ∃ j, seqIndex? i vs.length = some j ∧ vs[j]? = some v ∧ (0 ≤ i → j = i.toNat) := by
  unfold seqAt at e
  split at e
  · rename_i h
    have hj := (List.getElem?_eq_some_iff.mp e).1
    exact ⟨i.toNat, seqIndex_nn h (by omega), e, fun zz => rfl⟩
  · split at e
    · rename_i h1 h2
      exact ⟨(i + vs.length).toNat, seqIndex_ng (by omega) h2, e, fun q => absurd q h1⟩
    · cases e
theorem lim63 {i : Int} (h : i.natAbs ≤ LIM) : -(2 ^ 63) ≤ i ∧ i < 2 ^ 63 := by unfold LIM at h; omega

variable {g : Pg} {P : Tab}
section
variable {A : Around} {X : Bx} {l : List Env} {m : Str → Option Value} {s : Shared} {ρ : Rho} {σ : Hp} {Q E : Value → Shared → Prop}

theorem sub_list {value slice : Expr} {b : Addr} {ws : List Value} {vs : List V} {i : Int} {u : Tok} {v : V} (hl : s.heap.IsList b ws.toArray) (r : VRs X.G s.heap ρ vs ws) (hb : i.natAbs ≤ LIM) (e : seqAt vs i = some v)
    (hs : isSlice slice = false) (h : ∀ w, VR X.G s.heap ρ v w → Q w s) : wpAny (model g.prog g.w) A (subscriptTail value slice (.ref b) (.int i u)) Q E s := by
  obtain ⟨j, hj, hv, hp⟩ := seqAt_j e
  obtain ⟨w, hw, Vw⟩ := r.get j v hv
  obtain ⟨b1, b2⟩ := lim63 hb
  rw [r.length] at hj
  refine tail_any (ops := [.ref b, .int i u]) hl.typeIs PySem.slot_list_getitem.lookup ?_ (subs_ok hs _ _)
  by_cases h0 : 0 ≤ i
  · cases hp h0
    exact getItem_listL hl h0 b2 hw (h w Vw)
  · exact kde_getNeg hl (by omega) b1 hj hw (h w Vw)

theorem idx_ok {value slice : Expr} {va vi : V} {wa wi : Value} (sc : s.heap.IsList X.G.sa X.G.sv.toArray) (a : At X m s ρ σ) (Va : VR X.G s.heap ρ va wa) (Vi : VR X.G s.heap ρ vi wi) (hs : isSlice slice = false)
    (C : Cont X l m s ρ (lift (idxV σ va vi) σ) (VRc X) Q E) : wpAny (model g.prog g.w) A (subscriptTail value slice wa wi) Q E s := by
  cases vi with
  | int i =>
    obtain ⟨u, rfl⟩ := Vi
    cases va with
    | str l =>
      obtain ⟨t, rfl⟩ := Va
      by_cases hb : 0 ≤ i ∧ i < l.length ∧ i.natAbs ≤ LIM
      · rw [show idxV σ (.str l) (.int i) = (l[i.toNat]?).map fun c => .str [c] from if_pos hb] at C
        obtain ⟨h0, h1, h2⟩ := hb
        obtain ⟨b1, b2⟩ := lim63 h2
        have hlt : i.toNat < l.length := by omega
        refine item_str (fitsSsize_of (N := 9223372036854775808) (by omega) (by omega) (Int.le_refl _)) (by rw [str_len]; omega) (by rw [str_len]; exact h1) (fun zz => ?_)
          (subs_ok hs _ _) (temp_ok _ _ _)
        have he : Txt.item ⟨l.toArray⟩ i = ⟨[l[i.toNat]].toArray⟩ := by
          unfold Txt.item Txt.charAt
          have hj : seqIndex? i (⟨l.toArray⟩ : Str).length = some i.toNat := seqIndex_nn h0 (by rw [str_len]; exact h1)
          rw [hj]
          simp [hlt]
        rw [he]
        rw [List.getElem?_eq_getElem hlt] at C
        exact C.okT a (vr_str _)
      · rw [show idxV σ (.str l) (.int i) = none from if_neg hb] at C; exact C.elim
    | tup vs =>
      by_cases hb : i.natAbs ≤ LIM
      · rw [show idxV σ (.tup vs) (.int i) = seqAt vs i from if_pos hb] at C
        obtain ⟨b, ws, rfl, ⟨ht, -⟩, r⟩ := Va
        cases e : seqAt vs i with
        | none => rw [e] at C; exact C.elim
        | some v =>
          rw [e] at C
          obtain ⟨j, hj, hv, zz⟩ := seqAt_j e
          obtain ⟨w, hw, Vw⟩ := r.get j v hv
          obtain ⟨b1, b2⟩ := lim63 hb
          rw [r.length] at hj
          exact item_tupleT ht b1 b2 hj hw (Cont.ok a C Vw) (subs_ok hs _ _)
      · rw [show idxV σ (.tup vs) (.int i) = none from if_neg hb] at C; exact C.elim
    | lst vs =>
      by_cases hb : 0 ≤ i ∧ i.natAbs ≤ LIM
      · rw [show idxV σ (.lst vs) (.int i) = vs[i.toNat]? from if_pos hb] at C
        obtain ⟨rfl, r⟩ := Va
        cases e : vs[i.toNat]? with
        | none => rw [e] at C; exact C.elim
        | some v =>
          rw [e] at C
          exact sub_list sc r hb.2 (v := v) (by unfold seqAt; rw [if_pos hb.1]; exact e) hs fun w Vw => Cont.ok a C Vw
      · rw [show idxV σ (.lst vs) (.int i) = none from if_neg hb] at C; exact C.elim
    | ref n =>
      replace C : Cont X l m s ρ (lift (match σ[n]? with | some (.list vs) => if i.natAbs ≤ LIM then seqAt vs i else none | _ => none) σ) (VRc X) Q E := C
      match e1 : σ[n]?, C with
      | some (.list vs), C =>
        by_cases hb : i.natAbs ≤ LIM
        · replace C : Cont X l m s ρ (lift (if i.natAbs ≤ LIM then seqAt vs i else none) σ) (VRc X) Q E := C
          rw [if_pos hb] at C
          obtain ⟨b, ws, rfl, hl, r⟩ := a.list e1 Va
          cases e : seqAt vs i with
          | none => rw [e] at C; exact C.elim
          | some v =>
            rw [e] at C
            exact sub_list hl r hb e hs fun w Vw => Cont.ok a C Vw
        · replace C : Cont X l m s ρ (lift (if i.natAbs ≤ LIM then seqAt vs i else none) σ) (VRc X) Q E := C
          rw [if_neg hb] at C; exact C.elim
      | some (.inst _ _), C => exact C.elim
      | some (.cell _), C => exact C.elim
      | some (.clos _ _), C => exact C.elim
      | none, C => exact C.elim
    | _ => exact C.elim
  | _ => exact C.elim

theorem clip_nat (a n : Nat) : max (0 : Int) (min (if (a : Int) < 0 then (a : Int) + n else a) n) = ((min a n : Nat) : Int) := by
  rw [if_neg (Int.not_lt.mpr (Int.natCast_nonneg a))]; omega
theorem idx_nat (a b n : Nat) : Builtin.Str.strSliceIndices (some (a : Int)) (some (b : Int)) 1 n = sliceRange ((min a n : Nat) : Int) ((min b n : Nat) : Int) 1 :=
  congr (congrArg (fun x y => sliceRange x y 1) (clip_nat a n)) (clip_nat b n)
theorem slice_nat (x : Str) (a b : Nat) : Txt.slice x (some (a : Int)) (some (b : Int)) = Txt.slice x (some ((min a x.length : Nat) : Int)) (some ((min b x.length : Nat) : Int)) := by
  unfold Txt.slice
  rw [idx_nat, idx_nat, Nat.min_assoc, Nat.min_self, Nat.min_assoc, Nat.min_self]
theorem take_cut (l : List Nat) (a b : Nat) : (l.drop (min a l.length)).take (min b l.length - min a l.length) = (l.take b).drop a := by
  rw [List.drop_take]
  by_cases h : a ≤ l.length
  · rw [Nat.min_eq_left h, List.take_eq_take_iff, List.length_drop, Nat.sub_min_sub_right, Nat.sub_min_sub_right, Nat.min_assoc, Nat.min_self]
  · rw [Nat.min_eq_right (Nat.le_of_not_le h), List.drop_eq_nil_of_le (Nat.le_refl _), List.drop_eq_nil_of_le (Nat.le_of_not_le h), List.take_nil, List.take_nil]
theorem slice_ss (l : List Nat) {a b : Int} (h0 : 0 ≤ a) (h1 : a ≤ b) : Txt.slice ⟨l.toArray⟩ (some a) (some b) = ⟨(cut l a.toNat b.toNat).toArray⟩ := by
  obtain ⟨b, rfl⟩ := Int.eq_ofNat_of_zero_le (Int.le_trans h0 h1)
  obtain ⟨a, rfl⟩ := Int.eq_ofNat_of_zero_le h0
  have h1 : a ≤ b := Int.ofNat_le.mp h1
  rw [slice_nat, str_len]
  show StrLaws.sliceText _ _ _ = _
  rw [StrLaws.sliceText_plain (x := ⟨l.toArray⟩) (i := ((min a l.length : Nat) : Int)) (j := ((min b l.length : Nat) : Int)) ⟨Int.natCast_nonneg _, Int.ofNat_le.mpr (by omega), Int.ofNat_le.mpr (Nat.min_le_right _ _)⟩, Int.toNat_natCast, Int.toNat_natCast, Int.toNat_natCast, Int.toNat_sub]
  exact congrArg (fun x : List Nat => (⟨x.toArray⟩ : Str)) (take_cut l a b)
theorem slice_ns (x : Str) (b : Int) : Txt.slice x none (some b) = Txt.slice x (some 0) (some b) := by
  unfold Txt.slice
  rw [StrLaws.sliceIdx_none_lo]

noncomputable def OptR (G : Gd) (h : Heap) (ρ : Rho) : Option V → Value → Prop
  | none, w => w = .none
  | some v, w => VR G h ρ v w
noncomputable def PartR (a : Option Expr) (b : Option V) : Prop := a.isSome = b.isSome

theorem cut_ok {value : Expr} {elo ehi : Option Expr} {q : Pos} {va : V} {lo hi : Option V} {wa wlo whi : Value} (a : At X m s ρ σ) (Va : VR X.G s.heap ρ va wa) (Vlo : OptR X.G s.heap ρ lo wlo) (Vhi : OptR X.G s.heap ρ hi whi)
    (C : Cont X l m s ρ (lift (cutV va lo hi) σ) (VRc X) Q E) :
    wpAny (model g.prog g.w) A (subscriptTail value (.Slice elo ehi none q) wa (.ref s.heap.objs.size)) Q E { s with heap := s.heap.push { cls := .type "slice", data := .fields #[wlo, whi, .none] } } := by
  cases va with
  | str x =>
    obtain ⟨t, rfl⟩ := Va
    match hi, C with
    | some (.int j), C =>
      obtain ⟨v, rfl⟩ := Vhi
      match lo, C with
      | some (.int i), C =>
        by_cases hb : 0 ≤ i ∧ i ≤ j ∧ x.length ≤ LIM
        · rw [show cutV (.str x) (some (.int i)) (some (.int j)) = some (.str (cut x i.toNat j.toNat)) from if_pos hb] at C
          obtain ⟨u, rfl⟩ := Vlo
          refine slice_strN_ss a.fr (own_news _ _ _) (fun h' t' k F' N' => ?_) rfl (temp_ok _ _ _) (by rw [str_len]; exact lim_line hb.2.2)
          rw [slice_ss _ hb.1 hb.2.1]
          exact C _ _ _ (.keep a F' (keep_of_own a.fr F' N' fun zz z => z)) (vr_str _)
        · rw [show cutV (.str x) (some (.int i)) (some (.int j)) = none from if_neg hb] at C; exact C.elim
      | none, C =>
        by_cases hb : 0 ≤ j ∧ x.length ≤ LIM
        · rw [show cutV (.str x) none (some (.int j)) = some (.str (x.take j.toNat)) from if_pos hb] at C
          cases (show wlo = .none from Vlo)
          refine slice_strN_ns a.fr (own_news _ _ _) (fun h' t' k F' N' => ?_) rfl (temp_ok _ _ _) (by rw [str_len]; exact lim_line hb.2)
          rw [slice_ns, slice_ss _ (by omega) hb.1]
          exact C _ _ _ (.keep a F' (keep_of_own a.fr F' N' fun zz z => z)) (vr_str _)
        · rw [show cutV (.str x) none (some (.int j)) = none from if_neg hb] at C; exact C.elim
      | some .none, C | some (.bool _), C | some (.str _), C | some (.tup _), C | some (.lst _), C | some (.rng _), C | some (.ref _), C | some (.top _), C => exact C.elim
    | none, C | some .none, C | some (.bool _), C | some (.str _), C | some (.tup _), C | some (.lst _), C | some (.rng _), C | some (.ref _), C | some (.top _), C => exact C.elim
  | _ => exact C.elim
end
end Mine.Internal
end

section
open PySem PySem.W PyProof.Rows PySem.Calls PySem.SeqAt
set_option autoImplicit false
set_option maxRecDepth 100000
namespace Mine.Internal

theorem isStr_eq {x z : Str} {t : Tok} : (Value.str z t).isStr x = (z == x) := rfl
theorem str_bne {x y : Str} (h : x ≠ y) : (x == y) = false := beq_eq_false_iff_ne.mpr h
theorem getL_cons_eq {x : Str} {e : DictEntry} {es : List DictEntry} (h : e.key.isStr x = true) : getL x (e :: es) = some (some e.val) := by
  unfold getL; rw [List.find?_cons, h]
theorem getL_cons_ne {x : Str} {e : DictEntry} {es : List DictEntry} (h : e.key.isStr x = false) (hr : e.refKey = false) : getL x (e :: es) = getL x es := by
  unfold getL
  rw [List.find?_cons, h]
  simp only [List.any_cons, hr, Bool.false_or]
theorem FRel.get {G : Gd} {h : Heap} {ρ : Rho} {i : Nat} {x : Str} (hx : nm[i]? = some x) : ∀ {fs : List (Nat × V)} {es : List DictEntry}, FRel G h ρ fs es →
    match lk i fs with | some v => ∃ w, getL x es = some (some w) ∧ VR G h ρ v w | none => getL x es = some none
  | [], [], _ => rfl
  | (y, v) :: fs, e :: es, r => by
    obtain ⟨⟨z, t, hz, hk, hv⟩, r⟩ := r
    have ih := FRel.get hx r
    rw [lk_cons]
    by_cases q : y = i
    · subst q
      rw [hx] at hz; cases hz
      rw [Nat.beq_refl, if_pos rfl]
      exact ⟨e.val, getL_cons_eq (by rw [hk, isStr_eq]; exact beq_self_eq_true _), hv⟩
    · have h1 : Nat.beq i y = false := (Bool.eq_false_iff.mpr fun z => q (Nat.eq_of_beq_eq_true z).symm)
      rw [h1, if_neg (by decide)]
      have h2 : e.key.isStr x = false := by
        rw [hk, isStr_eq]
        exact str_bne fun z => q (nm_inj hz (z ▸ hx))
      have h3 : e.refKey = false := by unfold DictEntry.refKey; rw [hk]
      rw [getL_cons_ne h2 h3]
      exact ih
  | [], _ :: _, r => False.elim r
  | _ :: _, [], r => False.elim r

structure TabC (P : Tab) (K : Frag) : Prop where
  fld : ∀ c f, P.fld c f = true → ∃ x, nm[f]? = some x ∧ plainGet K c x = true ∧ hasDictIn K c = true ∧ (∃ attr, findIn K (.ref c) x = some attr ∧ noGet K attr = true) ∧
    findIn K (.ref c) "__setattr__" = some (some (.builtin "object.__setattr__")) ∧ plainOver K c = true ∧ takerIn K c x = some none
  meth : ∀ c f a, P.meth c f = some a → ∃ x, nm[f]? = some x ∧ plainGet K c x = true ∧ findIn K (.ref c) x = some (some (.ref a)) ∧ isFn K (.ref a) = true

variable {g : Pg} {P : Tab}
section
variable {A : Around} {X : Bx} {l : List Env} {m : Str → Option Value} {s : Shared} {ρ : Rho} {σ : Hp} {Q E : Value → Shared → Prop}
theorem VR.handed {G : Gd} {h : Heap} {v : V} {w : Value} (x : VR G h ρ v w) : handedIn w = true := by
  cases v
  · subst x; rfl
  · subst x; rfl
  · obtain ⟨zz, rfl⟩ := x; rfl
  · obtain ⟨zz, rfl⟩ := x; rfl
  · obtain ⟨zz, zz, rfl, zz⟩ := x; rfl
  · obtain ⟨rfl, zz⟩ := x; rfl
  · obtain ⟨zz, zz, zz, zz, rfl, zz⟩ := x; rfl
  · obtain ⟨zz, zz, rfl⟩ := x; rfl
  · subst x; rfl
theorem At.inst (a : At X m s ρ σ) {n c : Nat} {fs : List (Nat × V)} {w : Value} (e : σ[n]? = some (.inst c fs)) (V : VR X.G s.heap ρ (.ref n) w) :
    ∃ (b dx : Addr) (es : List DictEntry) (k : Nat), w = .ref b ∧ ρ[n]? = some (b, dx) ∧ InstAt s.heap b (instObj c dx) c (some (dictOf es k)) ∧ s.heap.get? b = some (instObj c dx) ∧ s.heap.get? dx = some (dictOf es k) ∧ FRel X.G s.heap ρ fs es := by
  obtain ⟨p, hp, rfl⟩ := V
  have o := a.rel.at e hp
  obtain ⟨h1, es, k, h2, h3⟩ := o
  exact ⟨p.1, p.2, es, k, rfl, hp, ⟨h1, rfl, rfl, h2⟩, h1, h2, h3⟩
theorem attr_ok (TC : TabC P X.G.K) (hK : X.G.K.In X.h₀) {f : Nat} {x : Str} {b : Bool} (hx : nm[f]? = some x) (a : At X m s ρ σ) {va : V} {wa : Value} (Va : VR X.G s.heap ρ va wa)
    (C : Cont X l m s ρ (lift (attrV P σ va f) σ) (VRc X) Q E) : wpAny (model g.prog g.w) A (getAttr wa x b) Q E s := by
  obtain ⟨v, e, D⟩ := C.lift
  clear C
  obtain ⟨n, c, fs, rfl, e1, hf, e⟩ := attrV_inv e
  obtain ⟨b, dx, es, k, rfl, hp, I, zz, zz, r⟩ := a.inst e1 Va
  obtain ⟨z, hz, t1, t2, ⟨attr, t3, t4⟩, zz⟩ := TC.fld _ _ hf
  rw [hx] at hz; cases hz
  have q := r.get hx
  rw [e] at q
  obtain ⟨w, q1, q2⟩ := q
  exact get_own a.fr hK I t1 t2 t3 t4 q1 q2.handed (D.okT a q2)
end
end Mine.Internal
end

section
open PySem PySem.W PyProof.Rows PySem.Calls PySem.SeqAt
set_option autoImplicit false
set_option maxRecDepth 100000
namespace Mine.Internal

variable {g : Pg} {P : Tab} {r : Rec}

noncomputable def ST (g : Pg) (r : Rec) : Prop :=
  ∀ (t : T) (f : Fr') (σ : Hp) (kd : Kd) (e : Expr) (A : Around) (X : Bx) (env fenv : Env) (outer : List Env) (m : Str → Option Value) (s : Shared) (ρ : Rho) (Q : Bool → Shared → Prop) (E : Value → Shared → Prop),
    TrE kd e t → Gr g A X fenv outer f.dep → EnvOK X env kd → At X m s ρ σ → Loc X env m s.heap ρ f → 0 < s.toks →
    Cont X (fenv :: outer) m s ρ (tst r t f σ) (fun zz zz b b' => b = b') (fun w s' => s.toks ≤ s'.toks → Q w s') E → wpAny (model g.prog g.w) A (isTrue e env (eval e env)) Q E s

theorem Cont.mapE {α β : Type} {X : Bx} {l : List Env} {m : Str → Option Value} {s : Shared} {ρ : Rho} {out : R α} {Rv : Heap → Rho → α → β → Prop} {Q Q' : β → Shared → Prop} {E E' : Value → Shared → Prop}
    (C : Cont X l m s ρ out Rv Q E) (hq : ∀ b s, Q b s → Q' b s) (he : ∀ b s, E b s → E' b s) : Cont X l m s ρ out Rv Q' E' := by
  cases out with
  | ok v σ' => exact fun b s' ρ' x y => hq _ _ (C b s' ρ' x y)
  | ex c mv σ' => exact fun e s' x => he _ _ (C e s' x)
  | no => exact C

theorem truthy_some {v : V} {b : Bool} (e : truthy v = some b) : v = .bool b := by
  cases v <;> first | exact no_some e | (cases e; rfl)

section
variable {f : Fr'} {σ : Hp} {kd : Kd} {A : Around} {X : Bx} {env fenv : Env} {outer : List Env} {m : Str → Option Value} {s : Shared} {ρ : Rho} {Q E : Value → Shared → Prop}

theorem Gr.u5 {dep : Nat} (γ : Gr g A X fenv outer dep) : A.units + 5 < cLine := by
  have := γ.units; have := γ.few
  show _ < 9900
  omega

theorem E_bin (hr : SE g r) {a b : Expr} {o p} {o' : Bop} {a' b' : T} (ho : bopOf o = some o') (ha : TrE kd a a') (hb : TrE kd b b') (γ : Gr g A X fenv outer f.dep) (W : EnvOK X env kd) (at_ : At X m s ρ σ) (c : Loc X env m s.heap ρ f) (tk : 0 < s.toks)
    (C : Cont X (fenv :: outer) m s ρ ((r.ev a' f σ).bind fun a h => (r.ev b' f h).bind fun b h => lift (binV o' a b) h) (VRc X) Q E) : wpAny (model g.prog g.w) A (eval (.BinOp a o b p) env) Q E s :=
  wpAny_BinOp (hr _ _ _ _ _ _ _ _ _ _ _ _ _ _ _ ha γ W at_ c tk (C.bind (RvA := VRc X) fun va σ₁ wa s₁ ρ₁ zz x₁ V₁ C₁ k₁ =>
    hr _ _ _ _ _ _ _ _ _ _ _ _ _ _ _ hb γ W x₁.at_ (c.after at_ x₁) (om22 ‹_› ‹_›) (C₁.bind (RvA := VRc X) fun vb σ₂ wb s₂ ρ₂ zz x₂ V₂ C₂ zz => bin_ok ho x₂.at_ (x₂.vr x₁.at_ V₁) V₂ C₂)))

theorem E_neg (hr : SE g r) {a : Expr} {p} {a' : T} (ha : TrE kd a a') (γ : Gr g A X fenv outer f.dep) (W : EnvOK X env kd) (at_ : At X m s ρ σ) (c : Loc X env m s.heap ρ f) (tk : 0 < s.toks)
    (C : Cont X (fenv :: outer) m s ρ ((r.ev a' f σ).bind fun a h => match a with | .int i => R.ok (V.int (-i)) h | _ => .no) (VRc X) Q E) : wpAny (model g.prog g.w) A (eval (.UnaryOp .USub a p) env) Q E s :=
  wpAny_UnaryOp (hr _ _ _ _ _ _ _ _ _ _ _ _ _ _ _ ha γ W at_ c tk (C.bind (RvA := VRc X) fun va σ₁ wa s₁ ρ₁ zz x₁ V₁ C₁ zz => neg_ok x₁.at_ V₁ C₁))

theorem tst_bind {α : Type} {t : T} {k : Bool → Hp → R α} : (tst r t f σ).bind k = (r.ev t f σ).bind fun v h => match truthy v with | some b => k b h | none => .no := by
  unfold tst
  cases r.ev t f σ with
  | ok v h => dsimp only [R.bind]; cases truthy v <;> rfl
  | ex c m h => rfl
  | no => rfl

theorem E_not (hr : SE g r) {a : Expr} {p} {a' : T} (ha : TrE kd a a') (γ : Gr g A X fenv outer f.dep) (W : EnvOK X env kd) (at_ : At X m s ρ σ) (c : Loc X env m s.heap ρ f) (tk : 0 < s.toks)
    (C : Cont X (fenv :: outer) m s ρ ((tst r a' f σ).bind fun b h => R.ok (V.bool (!b)) h) (VRc X) Q E) : wpAny (model g.prog g.w) A (eval (.UnaryOp .Not a p) env) Q E s := by
  rw [tst_bind] at C
  refine wpAny_UnaryOp (hr _ _ _ _ _ _ _ _ _ _ _ _ _ _ _ ha γ W at_ c tk (C.bind (RvA := VRc X) fun va σ₁ wa s₁ ρ₁ zz x₁ V₁ C₁ zz => ?_))
  cases e : truthy va with
  | none => rw [e] at C₁; exact C₁.elim
  | some b =>
    rw [e] at C₁
    cases truthy_some e
    subst V₁
    exact not_of (wpAny_truthy_bool (Cont.ok x₁.at_ C₁ rfl))

theorem E_ands (hr : SE g r) (γ : Gr g A X fenv outer f.dep) (W : EnvOK X env kd) (p : Pos) : ∀ {es : List Expr} {ts : List T} {σ : Hp} {s : Shared} {ρ : Rho}, TrEs kd es ts → At X m s ρ σ → Loc X env m s.heap ρ f → 0 < s.toks →
    Cont X (fenv :: outer) m s ρ (ands r f ts σ) (VRc X) Q E → wpAny (model g.prog g.w) A (boolOp p .And (evalEach es env)) Q E s := by
  intro es ts
  induction ts generalizing es with
  | nil =>
    intro σ s ρ zz at_ c tk C
    exact C.elim
  | cons zz ts ih => cases ts with
    | nil =>
      intro σ s ρ h at_ c tk C
      obtain ⟨zz, zz, rfl, ha, h⟩ := h.inv
      obtain rfl := h.inv0
      exact hr _ _ _ _ _ _ _ _ _ _ _ _ _ _ _ ha γ W at_ c tk (C.mapE (fun zz zz x zz => x) fun zz zz x => x)
    | cons t₂ ts =>
      intro σ s ρ h at_ c tk C
      obtain ⟨e, zz, rfl, ha, hb⟩ := h.inv
      obtain ⟨e₂, es, rfl, zz, zz⟩ := hb.inv
      show wpAny _ A (do
        let v ← eval e env
        standAt p
        let t ← holding [v] (PySem.truthy v)
        match BoolOp.And, t with
        | .And, false | .Or, true => pure v
        | _, _ => boolOp p .And (evalEach (e₂ :: es) env)) Q E s
      refine wpAny_bind (hr _ _ _ _ _ _ _ _ _ _ _ _ _ _ _ ha γ W at_ c tk (Cont.bind (RvA := VRc X) C fun va σ₁ wa s₁ ρ₁ zz x₁ V₁ C₁ k₁ => wpAny_bind (wpAny_standAt (wpAny_bind (wpAny_holding ?_)))))
      cases e : truthy va with
      | none => rw [e] at C₁; exact C₁.elim
      | some b =>
        rw [e] at C₁
        cases truthy_some e
        have V₁' := V₁
        subst V₁
        refine wpAny_truthy_bool ?_
        cases b with
        | false => exact wpAny_pure (Cont.ok x₁.at_ C₁ V₁')
        | true => exact ih hb x₁.at_ (c.after at_ x₁) (om22 ‹_› ‹_›) C₁

theorem E_ors (hr : SE g r) (γ : Gr g A X fenv outer f.dep) (W : EnvOK X env kd) (p : Pos) : ∀ {es : List Expr} {ts : List T} {σ : Hp} {s : Shared} {ρ : Rho}, TrEs kd es ts → At X m s ρ σ → Loc X env m s.heap ρ f → 0 < s.toks →
    Cont X (fenv :: outer) m s ρ (ors r f ts σ) (VRc X) Q E → wpAny (model g.prog g.w) A (boolOp p .Or (evalEach es env)) Q E s := by
  intro es ts
  induction ts generalizing es with
  | nil =>
    intro σ s ρ zz at_ c tk C
    exact C.elim
  | cons zz ts ih => cases ts with
    | nil =>
      intro σ s ρ h at_ c tk C
      obtain ⟨zz, zz, rfl, ha, h⟩ := h.inv
      obtain rfl := h.inv0
      exact hr _ _ _ _ _ _ _ _ _ _ _ _ _ _ _ ha γ W at_ c tk (C.mapE (fun zz zz x zz => x) fun zz zz x => x)
    | cons t₂ ts =>
      intro σ s ρ h at_ c tk C
      obtain ⟨e, zz, rfl, ha, hb⟩ := h.inv
      obtain ⟨e₂, es, rfl, zz, zz⟩ := hb.inv
      show wpAny _ A (do
        let v ← eval e env
        standAt p
        let t ← holding [v] (PySem.truthy v)
        match BoolOp.Or, t with
        | .And, false | .Or, true => pure v
        | _, _ => boolOp p .Or (evalEach (e₂ :: es) env)) Q E s
      refine wpAny_bind (hr _ _ _ _ _ _ _ _ _ _ _ _ _ _ _ ha γ W at_ c tk (Cont.bind (RvA := VRc X) C fun va σ₁ wa s₁ ρ₁ zz x₁ V₁ C₁ k₁ => wpAny_bind (wpAny_standAt (wpAny_bind (wpAny_holding ?_)))))
      cases e : truthy va with
      | none => rw [e] at C₁; exact C₁.elim
      | some b =>
        rw [e] at C₁
        cases truthy_some e
        have V₁' := V₁
        subst V₁
        refine wpAny_truthy_bool ?_
        cases b with
        | true => exact wpAny_pure (Cont.ok x₁.at_ C₁ V₁')
        | false => exact ih hb x₁.at_ (c.after at_ x₁) (om22 ‹_› ‹_›) C₁

theorem E_ite (hr : SE g r) (ht : ST g r) {cc a b : Expr} {p} {c' a' b' : T} (hc : TrE kd cc c') (ha : TrE kd a a') (hb : TrE kd b b') (γ : Gr g A X fenv outer f.dep) (W : EnvOK X env kd) (at_ : At X m s ρ σ) (c : Loc X env m s.heap ρ f) (tk : 0 < s.toks)
    (C : Cont X (fenv :: outer) m s ρ ((tst r c' f σ).bind fun t h => if t then r.ev a' f h else r.ev b' f h) (VRc X) Q E) : wpAny (model g.prog g.w) A (eval (.IfExp cc a b p) env) Q E s :=
  wpAny_IfExp (ht _ _ _ _ _ _ _ _ _ _ _ _ _ _ _ hc γ W at_ c tk (C.bind (RvA := fun zz zz b b' => b = b') fun va σ₁ wa s₁ ρ₁ zz x₁ V₁ C₁ k₁ => by
    subst V₁
    cases va with
    | true => exact hr _ _ _ _ _ _ _ _ _ _ _ _ _ _ _ ha γ W x₁.at_ (c.after at_ x₁) (om22 ‹_› ‹_›) (C₁.mapE (fun zz zz x zz => x) fun zz zz x => x)
    | false => exact hr _ _ _ _ _ _ _ _ _ _ _ _ _ _ _ hb γ W x₁.at_ (c.after at_ x₁) (om22 ‹_› ‹_›) (C₁.mapE (fun zz zz x zz => x) fun zz zz x => x)))

theorem E_cmp (hr : SE g r) {a b : Expr} {o p} {a' b' : T} (ha : TrE kd a a') (hb : TrE kd b b') (γ : Gr g A X fenv outer f.dep) (W : EnvOK X env kd) (at_ : At X m s ρ σ) (c : Loc X env m s.heap ρ f) (tk : 0 < s.toks)
    (C : Cont X (fenv :: outer) m s ρ ((r.ev a' f σ).bind fun a h => (r.ev b' f h).bind fun b h => lift ((cmpV h (copOf o) a b).map .bool) h) (VRc X) Q E) : wpAny (model g.prog g.w) A (eval (.Compare a [o] [b] p) env) Q E s :=
  wpAny_Compare1 (hr _ _ _ _ _ _ _ _ _ _ _ _ _ _ _ ha γ W at_ c tk (C.bind (RvA := VRc X) fun va σ₁ wa s₁ ρ₁ zz x₁ V₁ C₁ k₁ =>
    hr _ _ _ _ _ _ _ _ _ _ _ _ _ _ _ hb γ W x₁.at_ (c.after at_ x₁) (om22 ‹_› ‹_›) (C₁.bind (RvA := VRc X) fun vb σ₂ wb s₂ ρ₂ zz x₂ V₂ C₂ zz => by
      cases e : cmpV σ₂ (copOf o) va vb with
      | none => rw [e] at C₂; exact C₂.elim
      | some k =>
        rw [e] at C₂
        exact cmp_ok x₂.at_ (x₂.vr x₁.at_ V₁) V₂ e γ.u5 (Cont.ok x₂.at_ C₂ rfl)))) (hb.inMarks _)

theorem E_cmp2 (hr : SE g r) {a b d : Expr} {o₁ o₂ p} {a' b' d' : T} (ha : TrE kd a a') (hb : TrE kd b b') (hd : TrE kd d d') (γ : Gr g A X fenv outer f.dep) (W : EnvOK X env kd) (at_ : At X m s ρ σ) (c : Loc X env m s.heap ρ f) (tk : 0 < s.toks)
    (C : Cont X (fenv :: outer) m s ρ ((r.ev a' f σ).bind fun a h => (r.ev b' f h).bind fun b h => match cmpV h (copOf o₁) a b with
      | some true => (r.ev d' f h).bind fun c h => lift ((cmpV h (copOf o₂) b c).map .bool) h
      | some false => .ok (.bool false) h
      | none => .no) (VRc X) Q E) : wpAny (model g.prog g.w) A (eval (.Compare a [o₁, o₂] [b, d] p) env) Q E s :=
  Compare_chain (hr _ _ _ _ _ _ _ _ _ _ _ _ _ _ _ ha γ W at_ c tk (C.bind (RvA := VRc X) fun va σ₁ wa s₁ ρ₁ zz x₁ V₁ C₁ k₁ => chain_link (
    hr _ _ _ _ _ _ _ _ _ _ _ _ _ _ _ hb γ W x₁.at_ (c.after at_ x₁) (om22 ‹_› ‹_›) (C₁.bind (RvA := VRc X) fun vb σ₂ wb s₂ ρ₂ zz x₂ V₂ C₂ k₂ => by
      have V₁' := x₂.vr x₁.at_ V₁
      cases e : cmpV σ₂ (copOf o₁) va vb with
      | none => rw [e] at C₂; exact C₂.elim
      | some k =>
        rw [e] at C₂
        refine cmp_ok x₂.at_ V₁' V₂ e γ.u5 (wpAny_truthy_bool ?_)
        cases k with
        | false => exact Cont.ok x₂.at_ C₂ rfl
        | true =>
          refine chain_last (hr _ _ _ _ _ _ _ _ _ _ _ _ _ _ _ hd γ W x₂.at_ ((c.after at_ x₁).after x₁.at_ x₂) (om24 ‹_› ‹_› ‹_›) (Cont.bind (RvA := VRc X) C₂ fun vd σ₃ wd s₃ ρ₃ zz x₃ V₃ C₃ zz => ?_))
          cases e : cmpV σ₃ (copOf o₂) vb vd with
          | none => rw [e] at C₃; exact C₃.elim
          | some k =>
            rw [e] at C₃
            exact cmp_ok x₃.at_ (x₃.vr x₂.at_ V₂) V₃ e γ.u5 (Cont.ok x₃.at_ C₃ rfl)))))
    (by simp only [lastMarks]; exact hd.inMarks _)
end
end Mine.Internal
end

section
open PySem PySem.W PyProof.Rows PySem.Calls PySem.SeqAt
set_option autoImplicit false
set_option maxRecDepth 100000
namespace Mine.Internal

variable {g : Pg} {P : Tab} {r : Rec}

theorem R.bind_assoc {α β γ : Type} (x : R α) (k : α → Hp → R β) (l : β → Hp → R γ) : (x.bind k).bind l = x.bind fun a h => (k a h).bind l := by
  cases x <;> rfl

section
variable {f : Fr'} {σ : Hp} {kd : Kd} {A : Around} {X : Bx} {env fenv : Env} {outer : List Env} {m : Str → Option Value} {s : Shared} {ρ : Rho} {E : Value → Shared → Prop}

theorem T_plain (hs : SE g r) {Q : Bool → Shared → Prop} {e : Expr} {t : T} (h : TrE kd e t) (he : ∀ whole, isTrue e env whole = (do let v ← whole; standAt e.pos; holding [v] (PySem.truthy v)))
    (γ : Gr g A X fenv outer f.dep) (W : EnvOK X env kd) (at_ : At X m s ρ σ) (c : Loc X env m s.heap ρ f) (tk : 0 < s.toks)
    (C : Cont X (fenv :: outer) m s ρ (tst r t f σ) (fun zz zz b b' => b = b') Q E) : wpAny (model g.prog g.w) A (isTrue e env (eval e env)) Q E s := by
  refine isTrue_plain (hs _ _ _ _ _ _ _ _ _ _ _ _ _ _ _ h γ W at_ c tk (Cont.bind (RvA := VRc X) C fun va σ₁ wa s₁ ρ₁ zz x₁ V₁ C₁ k₁ => ?_)) (he _)
  cases e : truthy va with
  | none => rw [e] at C₁; exact C₁.elim
  | some b =>
    rw [e] at C₁
    cases truthy_some e
    subst V₁
    exact wpAny_truthy_bool (Cont.ok x₁.at_ C₁ rfl)

theorem T_ands (ht : ST g r) (γ : Gr g A X fenv outer f.dep) (W : EnvOK X env kd) {Q : Bool → Shared → Prop} : ∀ {es : List Expr} {ts : List T} {σ : Hp} {s : Shared} {ρ : Rho}, TrEs kd es ts → At X m s ρ σ → Loc X env m s.heap ρ f → 0 < s.toks →
    Cont X (fenv :: outer) m s ρ ((ands r f ts σ).bind fun v h => match truthy v with | some b => R.ok b h | none => .no) (fun zz zz b b' => b = b') Q E → wpAny (model g.prog g.w) A (allTrue .And es env) Q E s := by
  intro es ts
  induction ts generalizing es with
  | nil =>
    intro σ s ρ zz at_ c tk C
    exact C.elim
  | cons t ts ih => cases ts with
    | nil =>
      intro σ s ρ h at_ c tk C
      obtain ⟨zz, zz, rfl, ha, h⟩ := h.inv
      obtain rfl := h.inv0
      exact wpAny_allTrue_And_cons (ht _ _ _ _ _ _ _ _ _ _ _ _ _ _ _ ha γ W at_ c tk (Cont.mapE C (fun b s x zz => by
        cases b with
        | true => exact wpAny_allTrue_And_nil x
        | false => exact x) fun zz zz x => x))
    | cons t₂ ts =>
      intro σ s ρ h at_ c tk C
      obtain ⟨e, es, rfl, ha, hb⟩ := h.inv
      have e1 : ((ands r f (t :: t₂ :: ts) σ).bind fun v h => match truthy v with | some b => R.ok b h | none => .no) =
          (tst r t f σ).bind fun b h => if b then ((ands r f (t₂ :: ts) h).bind fun v h => match truthy v with | some b => R.ok b h | none => .no) else .ok false h := by
        rw [tst_bind]
        show (R.bind (r.ev t f σ) _).bind _ = _
        rw [R.bind_assoc]
        congr 1
        funext v h
        cases e : truthy v with
        | none => rfl
        | some b =>
          cases truthy_some e
          cases b <;> rfl
      rw [e1] at C
      refine wpAny_allTrue_And_cons (ht _ _ _ _ _ _ _ _ _ _ _ _ _ _ _ ha γ W at_ c tk (Cont.bind (RvA := fun zz zz b b' => b = b') C fun va σ₁ wa s₁ ρ₁ zz x₁ V₁ C₁ k₁ => ?_))
      subst V₁
      cases va with
      | false => exact Cont.ok x₁.at_ C₁ rfl
      | true => exact ih hb x₁.at_ (c.after at_ x₁) (om22 ‹_› ‹_›) C₁

theorem T_ors (ht : ST g r) (γ : Gr g A X fenv outer f.dep) (W : EnvOK X env kd) {Q : Bool → Shared → Prop} : ∀ {es : List Expr} {ts : List T} {σ : Hp} {s : Shared} {ρ : Rho}, TrEs kd es ts → At X m s ρ σ → Loc X env m s.heap ρ f → 0 < s.toks →
    Cont X (fenv :: outer) m s ρ ((ors r f ts σ).bind fun v h => match truthy v with | some b => R.ok b h | none => .no) (fun zz zz b b' => b = b') Q E → wpAny (model g.prog g.w) A (allTrue .Or es env) Q E s := by
  intro es ts
  induction ts generalizing es with
  | nil =>
    intro σ s ρ zz at_ c tk C
    exact C.elim
  | cons t ts ih => cases ts with
    | nil =>
      intro σ s ρ h at_ c tk C
      obtain ⟨zz, zz, rfl, ha, h⟩ := h.inv
      obtain rfl := h.inv0
      exact wpAny_allTrue_Or_cons (ht _ _ _ _ _ _ _ _ _ _ _ _ _ _ _ ha γ W at_ c tk (Cont.mapE C (fun b s x zz => by
        cases b with
        | false => exact wpAny_allTrue_Or_nil x
        | true => exact x) fun zz zz x => x))
    | cons t₂ ts =>
      intro σ s ρ h at_ c tk C
      obtain ⟨e, es, rfl, ha, hb⟩ := h.inv
      have e1 : ((ors r f (t :: t₂ :: ts) σ).bind fun v h => match truthy v with | some b => R.ok b h | none => .no) =
          (tst r t f σ).bind fun b h => if b then .ok true h else ((ors r f (t₂ :: ts) h).bind fun v h => match truthy v with | some b => R.ok b h | none => .no) := by
        rw [tst_bind]
        show (R.bind (r.ev t f σ) _).bind _ = _
        rw [R.bind_assoc]
        congr 1
        funext v h
        cases e : truthy v with
        | none => rfl
        | some b =>
          cases truthy_some e
          cases b <;> rfl
      rw [e1] at C
      refine wpAny_allTrue_Or_cons (ht _ _ _ _ _ _ _ _ _ _ _ _ _ _ _ ha γ W at_ c tk (Cont.bind (RvA := fun zz zz b b' => b = b') C fun va σ₁ wa s₁ ρ₁ zz x₁ V₁ C₁ k₁ => ?_))
      subst V₁
      cases va with
      | true => exact Cont.ok x₁.at_ C₁ rfl
      | false => exact ih hb x₁.at_ (c.after at_ x₁) (om22 ‹_› ‹_›) C₁

section
variable {Q : Bool → Shared → Prop}
theorem T_not (hr : SE g r) (ht : ST g r) {a : Expr} {p : Pos} {a' : T} (ha : TrE kd a a') (γ : Gr g A X fenv outer f.dep) (W : EnvOK X env kd) (at_ : At X m s ρ σ) (c : Loc X env m s.heap ρ f) (tk : 0 < s.toks)
    (C : Cont X (fenv :: outer) m s ρ (tst (stepR P r) (.not a') f σ) (fun zz zz b b' => b = b') Q E) : wpAny (model g.prog g.w) A (isTrue (.UnaryOp .Not a p) env (eval (.UnaryOp .Not a p) env)) Q E s := by
  unfold tst stepR at C
  dsimp only at C
  rw [show evF P r (.not a') f σ = (tst r a' f σ).bind fun b h => R.ok (V.bool (!b)) h from rfl, R.bind_assoc] at C
  exact wpAny_isTrue_Not (ht _ _ _ _ _ _ _ _ _ _ _ _ _ _ _ ha γ W at_ c tk (Cont.bind (RvA := fun zz zz b b' => b = b') C fun va σ₁ wa s₁ ρ₁ zz x₁ V₁ C₁ k₁ => by
    subst V₁; exact Cont.ok x₁.at_ C₁ rfl))
theorem T_ite (hr : SE g r) (ht : ST g r) {cc a b : Expr} {p : Pos} {c' a' b' : T} (hc : TrE kd cc c') (ha : TrE kd a a') (hb : TrE kd b b') (γ : Gr g A X fenv outer f.dep) (W : EnvOK X env kd) (at_ : At X m s ρ σ) (c : Loc X env m s.heap ρ f) (tk : 0 < s.toks)
    (C : Cont X (fenv :: outer) m s ρ (tst (stepR P r) (.ite c' a' b') f σ) (fun zz zz b b' => b = b') Q E) : wpAny (model g.prog g.w) A (isTrue (.IfExp cc a b p) env (eval (.IfExp cc a b p) env)) Q E s := by
  unfold tst stepR at C
  dsimp only at C
  rw [show evF P r (.ite c' a' b') f σ = (tst r c' f σ).bind fun t h => if t then r.ev a' f h else r.ev b' f h from rfl, R.bind_assoc] at C
  refine isTrue_IfExp (ht _ _ _ _ _ _ _ _ _ _ _ _ _ _ _ hc γ W at_ c tk (Cont.bind (RvA := fun zz zz b b' => b = b') C fun va σ₁ wa s₁ ρ₁ zz x₁ V₁ C₁ k₁ => ?_))
  subst V₁
  cases va with
  | true => exact ht _ _ _ _ _ _ _ _ _ _ _ _ _ _ _ ha γ W x₁.at_ (c.after at_ x₁) (om22 ‹_› ‹_›) (Cont.mapE C₁ (fun zz zz x zz => x) fun zz zz x => x)
  | false => exact ht _ _ _ _ _ _ _ _ _ _ _ _ _ _ _ hb γ W x₁.at_ (c.after at_ x₁) (om22 ‹_› ‹_›) (Cont.mapE C₁ (fun zz zz x zz => x) fun zz zz x => x)
theorem T_cmp (hr : SE g r) (ht : ST g r) {a b : Expr} {o : CmpOp} {p : Pos} {a' b' : T} (ha : TrE kd a a') (hb : TrE kd b b') (γ : Gr g A X fenv outer f.dep) (W : EnvOK X env kd) (at_ : At X m s ρ σ) (c : Loc X env m s.heap ρ f) (tk : 0 < s.toks)
    (C : Cont X (fenv :: outer) m s ρ (tst (stepR P r) (.cmp (copOf o) a' b') f σ) (fun zz zz b b' => b = b') Q E) : wpAny (model g.prog g.w) A (isTrue (.Compare a [o] [b] p) env (eval (.Compare a [o] [b] p) env)) Q E s := by
  unfold tst stepR at C
  dsimp only at C
  rw [show evF P r (.cmp (copOf o) a' b') f σ = (r.ev a' f σ).bind fun a h => (r.ev b' f h).bind fun b h => lift ((cmpV h (copOf o) a b).map .bool) h from rfl] at C
  simp only [R.bind_assoc] at C
  exact wpAny_isTrue_Compare1 (hr _ _ _ _ _ _ _ _ _ _ _ _ _ _ _ ha γ W at_ c tk (Cont.bind (RvA := VRc X) C fun va σ₁ wa s₁ ρ₁ zz x₁ V₁ C₁ k₁ =>
    hr _ _ _ _ _ _ _ _ _ _ _ _ _ _ _ hb γ W x₁.at_ (c.after at_ x₁) (om22 ‹_› ‹_›) (Cont.bind (RvA := VRc X) C₁ fun vb σ₂ wb s₂ ρ₂ zz x₂ V₂ C₂ zz => by
      cases e : cmpV σ₂ (copOf o) va vb with
      | none => rw [e] at C₂; exact C₂.elim
      | some k =>
        rw [e] at C₂
        exact cmp_ok x₂.at_ (x₂.vr x₁.at_ V₁) V₂ e γ.u5 (wpAny_truthy_bool (Cont.ok x₂.at_ C₂ rfl))))) (hb.inMarks _)
theorem T_cmp2 (hr : SE g r) (ht : ST g r) {a b d : Expr} {o₁ o₂ : CmpOp} {p : Pos} {a' b' d' : T} (ha : TrE kd a a') (hb : TrE kd b b') (hd : TrE kd d d') (γ : Gr g A X fenv outer f.dep) (W : EnvOK X env kd) (at_ : At X m s ρ σ) (c : Loc X env m s.heap ρ f) (tk : 0 < s.toks)
    (C : Cont X (fenv :: outer) m s ρ (tst (stepR P r) (.cmp2 (copOf o₁) (copOf o₂) a' b' d') f σ) (fun zz zz b b' => b = b') Q E) : wpAny (model g.prog g.w) A (isTrue (.Compare a [o₁, o₂] [b, d] p) env (eval (.Compare a [o₁, o₂] [b, d] p) env)) Q E s := by
  unfold tst stepR at C
  dsimp only at C
  rw [show evF P r (.cmp2 (copOf o₁) (copOf o₂) a' b' d') f σ = (r.ev a' f σ).bind fun a h => (r.ev b' f h).bind fun b h => match cmpV h (copOf o₁) a b with
    | some true => (r.ev d' f h).bind fun c h => lift ((cmpV h (copOf o₂) b c).map .bool) h
    | some false => .ok (.bool false) h
    | none => .no from rfl] at C
  simp only [R.bind_assoc] at C
  refine isTrue_chain (hr _ _ _ _ _ _ _ _ _ _ _ _ _ _ _ ha γ W at_ c tk (Cont.bind (RvA := VRc X) C fun va σ₁ wa s₁ ρ₁ zz x₁ V₁ C₁ k₁ => test_link (
    hr _ _ _ _ _ _ _ _ _ _ _ _ _ _ _ hb γ W x₁.at_ (c.after at_ x₁) (om22 ‹_› ‹_›) (Cont.bind (RvA := VRc X) C₁ fun vb σ₂ wb s₂ ρ₂ zz x₂ V₂ C₂ k₂ => ?_)))) (by simp only [lastMarks]; exact hd.inMarks _)
  have V₁' := x₂.vr x₁.at_ V₁
  cases e : cmpV σ₂ (copOf o₁) va vb with
  | none => rw [e] at C₂; exact C₂.elim
  | some k =>
    rw [e] at C₂
    refine cmp_ok x₂.at_ V₁' V₂ e γ.u5 (wpAny_truthy_bool ?_)
    cases k with
    | false => exact Cont.ok x₂.at_ C₂ rfl
    | true =>
      dsimp only at C₂
      rw [R.bind_assoc] at C₂
      refine test_last (hr _ _ _ _ _ _ _ _ _ _ _ _ _ _ _ hd γ W x₂.at_ ((c.after at_ x₁).after x₁.at_ x₂) (om24 ‹_› ‹_› ‹_›) (Cont.bind (RvA := VRc X) C₂ fun vd σ₃ wd s₃ ρ₃ zz x₃ V₃ C₃ zz => ?_))
      cases e : cmpV σ₃ (copOf o₂) vb vd with
      | none => rw [e] at C₃; exact C₃.elim
      | some k =>
        rw [e] at C₃
        exact cmp_ok x₃.at_ (x₃.vr x₂.at_ V₂) V₃ e γ.u5 (wpAny_truthy_bool (Cont.ok x₃.at_ C₃ rfl))
end
theorem T_step (hr : SE g r) (ht : ST g r) (hs : SE g (stepR P r)) : ST g (stepR P r) := by
  intro t f σ kd e A X env fenv outer m s ρ Q E h γ W at_ c tk C
  suffices H : Cont X (fenv :: outer) m s ρ (tst (stepR P r) t f σ) (fun zz zz b b' => b = b') (fun a s' => s.toks ≤ s'.toks → Q a s') (fun e s' => s.toks ≤ s'.toks → E e s') → wpAny (model g.prog g.w) A (isTrue e env (eval e env)) (fun a s' => s.toks ≤ s'.toks → Q a s') (fun e s' => s.toks ≤ s'.toks → E e s') s from
    wpAny_tk (H (C.mapE (fun zz zz x => x) fun zz zz x zz => x))
  clear C
  generalize (fun (a : Bool) (s' : Shared) => s.toks ≤ s'.toks → Q a s') = Q'
  generalize (fun (e : Value) (s' : Shared) => s.toks ≤ s'.toks → E e s') = E'
  clear Q E
  intro C
  cases t with
  | not a' =>
    obtain ⟨zz, zz, rfl, ha⟩ := h.2
    exact T_not hr ht ha γ W at_ c tk C
  | and ts =>
    obtain ⟨zz, zz, rfl, hh⟩ := h.2
    exact wpAny_isTrue_BoolOp (T_ands ht γ W hh at_ c tk C)
  | or ts =>
    obtain ⟨zz, zz, rfl, hh⟩ := h.2
    exact wpAny_isTrue_BoolOp (T_ors ht γ W hh at_ c tk C)
  | ite c' a' b' =>
    obtain ⟨zz, zz, zz, zz, rfl, hc, ha, hb⟩ := h.2
    exact T_ite hr ht hc ha hb γ W at_ c tk C
  | cmp o' a' b' =>
    obtain ⟨zz, zz, zz, zz, rfl, rfl, ha, hb⟩ := h.2
    exact T_cmp hr ht ha hb γ W at_ c tk C
  | cmp2 p' q' a' b' d' =>
    obtain ⟨zz, zz, zz, zz, zz, zz, rfl, rfl, rfl, ha, hb, hd⟩ := h.2
    exact T_cmp2 hr ht ha hb hd γ W at_ c tk C
  | _ => exact T_plain hs h (h.props.test rfl env) γ W at_ c tk C

theorem E_evs (hr : SE g r) (γ : Gr g A X fenv outer f.dep) (W : EnvOK X env kd) (p : Pos) : ∀ {es : List Expr} {ts : List T} {σ : Hp} {s : Shared} {ρ : Rho} {Q : List Value → Shared → Prop}, TrEs kd es ts → At X m s ρ σ → Loc X env m s.heap ρ f → 0 < s.toks →
    Cont X (fenv :: outer) m s ρ (evs r f ts σ) (fun h ρ vs ws => VRs X.G h ρ vs ws) (fun w s' => s.toks ≤ s'.toks → Q w s') E → wpAny (model g.prog g.w) A (spliced (backTo p (starEach es env))) Q E s := by
  intro es ts
  induction ts generalizing es with
  | nil =>
    intro σ s ρ Q h at_ c tk C
    obtain rfl := h.inv0
    exact wpAny_items_nil (Cont.ok at_ C trivial (Nat.le_refl _))
  | cons t ts ih =>
    intro σ s ρ Q h at_ c tk C
    obtain ⟨zz, es, rfl, ha, hs⟩ := h.inv
    refine wpAny_items_cons (hr _ _ _ _ _ _ _ _ _ _ _ _ _ _ _ ha γ W at_ c tk (Cont.bind (RvA := VRc X) C fun va σ₁ wa s₁ ρ₁ zz x₁ V₁ C₁ k₁ => ?_)) (ha.star _ _)
    refine ih hs x₁.at_ (c.after at_ x₁) (om22 ‹_› ‹_›) (Cont.bind (RvA := fun h ρ vs ws => VRs X.G h ρ vs ws) C₁ fun vs σ₂ ws s₂ ρ₂ zz x₂ V₂ C₂ k₂ => ?_)
    exact Cont.ok x₂.at_ C₂ (⟨x₂.vr x₁.at_ V₁, V₂⟩) (om23 ‹_› ‹_›)
end
end Mine.Internal
end

section
open PySem PySem.W PyProof.Rows PySem.Calls PySem.SeqAt
set_option autoImplicit false
set_option maxRecDepth 100000
namespace Mine.Internal

variable {g : Pg} {P : Tab} {r : Rec}

theorem evs_len {f : Fr'} : ∀ {ts : List T} {σ : Hp} {vs : List V} {σ' : Hp}, evs r f ts σ = .ok vs σ' → vs.length = ts.length
  | [], σ, vs, σ', e => by cases e; rfl
  | t :: ts, σ, vs, σ', e => by
    change (r.ev t f σ).bind (fun v h => (evs r f ts h).bind fun vs h => .ok (v :: vs) h) = _ at e
    cases h : r.ev t f σ with
    | ok v h' =>
      rw [h] at e; dsimp only [R.bind] at e
      cases h2 : evs r f ts h' with
      | ok vs' h'' => rw [h2] at e; cases e; simp [evs_len h2]
      | ex c m h'' => rw [h2] at e; cases e
      | no => rw [h2] at e; cases e
    | ex c m h' => rw [h] at e; cases e
    | no => rw [h] at e; cases e
theorem TrEs.length {kd : Kd} : ∀ {es : List Expr} {ts : List T}, TrEs kd es ts → es.length = ts.length
  | _, [], h => by obtain rfl := h.inv0; rfl
  | _, _ :: _, h => by
    obtain ⟨zz, zz, rfl, zz, h⟩ := h.inv
    rw [List.length_cons, List.length_cons, h.length]
theorem get_size {h : Heap} : h.get? h.objs.size = none := by
  cases q : h.get? h.objs.size with
  | none => rfl
  | some o => exact absurd (Heap.lt_size q) (Nat.lt_irrefl _)
theorem small_line {n : Nat} (h : n < 20) : n ≤ sizeLine := by rw [sizeLine_eq]; omega

section
variable {f : Fr'} {σ : Hp} {kd : Kd} {A : Around} {X : Bx} {env fenv : Env} {outer : List Env} {m : Str → Option Value} {s : Shared} {ρ : Rho} {Q E : Value → Shared → Prop}

theorem new_tup {vs : List V} {ws : List Value} (at_ : At X m s ρ σ) (Rw : VRs X.G s.heap ρ vs ws)
    (C : Cont X (fenv :: outer) m s ρ (R.ok (V.tup vs) σ) (VRc X) Q E) : Q (.ref s.heap.objs.size) { s with heap := s.heap.push { cls := .type "tuple", data := .seq ws.toArray } } := by
  have x : After X m s ρ { s with heap := s.heap.push { cls := .type "tuple", data := .seq ws.toArray }, toks := s.toks } ρ σ := .keep at_ (at_.fr.push _) fun b o e zz => Heap.get?_push_of_some _ e
  exact C _ _ _ x (by
    exact ⟨_, ws, rfl, ⟨⟨_, Heap.get?_push_size _ rfl, rfl, _, rfl⟩, at_.nbad get_size⟩, x.vrs at_ Rw⟩)
theorem new_lst {vs : List V} {ws : List Value} (at_ : At X m s ρ σ) (Rw : VRs X.G s.heap ρ vs ws)
    (C : Cont X (fenv :: outer) m s ρ (R.ok (V.ref σ.length) (σ ++ [.list vs])) (VRc X) Q E) : Q (.ref s.heap.objs.size) { s with heap := s.heap.push { cls := .type "list", data := .seq ws.toArray } } := by
  have x : After X m s ρ { s with heap := s.heap.push { cls := .type "list", data := .seq ws.toArray }, toks := s.toks } ρ σ := .keep at_ (at_.fr.push _) fun b o e zz => Heap.get?_push_of_some _ e
  have y : After X m s ρ { s with heap := s.heap.push { cls := .type "list", data := .seq ws.toArray }, toks := s.toks } (ρ ++ [(s.heap.objs.size, s.heap.objs.size)]) (σ ++ [.list vs]) :=
    .new at_ (at_.fr.push _) (fun b o e zz => Heap.get?_push_of_some _ e) get_size (by
      refine ⟨rfl, ws.toArray, 0, Heap.get?_push_size _ rfl, ?_⟩
      have := x.vrs at_ Rw
      exact VRs.mono (fun zz zz zz z => z) (fun zz zz zz zz zz z => z) (fun n p z => by rw [List.getElem?_append_left (List.getElem?_eq_some_iff.mp z).1, z]) _ _ this)
  exact C _ _ _ y (by
    exact ⟨(s.heap.objs.size, s.heap.objs.size), by rw [← at_.rel.len]; simp, rfl⟩)

theorem E_tup (hr : SE g r) {es : List Expr} {k p} {ts : List T} (h : TrEs kd es ts) (hl : es.length < 20) (γ : Gr g A X fenv outer f.dep) (W : EnvOK X env kd) (at_ : At X m s ρ σ) (c : Loc X env m s.heap ρ f) (tk : 0 < s.toks)
    (C : Cont X (fenv :: outer) m s ρ ((evs r f ts σ).bind fun vs h => .ok (.tup vs) h) (VRc X) Q E) : wpAny (model g.prog g.w) A (eval (.Tuple es k p) env) Q E s :=
  wpAny_Tuple (E_evs hr γ W p h at_ c tk (Cont.bind (RvA := fun h ρ vs ws => VRs X.G h ρ vs ws) C fun vs σ₁ ws s₁ ρ₁ e x₁ V₁ C₁ k₁ =>
    ⟨by rw [← V₁.length, evs_len e, ← h.length]; exact small_line hl, new_tup x₁.at_ V₁ C₁⟩))
theorem E_lst (hr : SE g r) {es : List Expr} {p} {ts : List T} (h : TrEs kd es ts) (hl : es.length < 20) (γ : Gr g A X fenv outer f.dep) (W : EnvOK X env kd) (at_ : At X m s ρ σ) (c : Loc X env m s.heap ρ f) (tk : 0 < s.toks)
    (C : Cont X (fenv :: outer) m s ρ ((evs r f ts σ).bind fun vs h => .ok (.ref h.length) (h ++ [.list vs])) (VRc X) Q E) : wpAny (model g.prog g.w) A (eval (.List es p) env) Q E s :=
  wpAny_List (E_evs hr γ W p h at_ c tk (Cont.bind (RvA := fun h ρ vs ws => VRs X.G h ρ vs ws) C fun vs σ₁ ws s₁ ρ₁ e x₁ V₁ C₁ k₁ =>
    ⟨by rw [← V₁.length, evs_len e, ← h.length]; exact small_line hl, new_lst x₁.at_ V₁ C₁⟩))

theorem E_idx (hr : SE g r) {a i : Expr} {p} {a' i' : T} (hn : isSlice i = false) (ha : TrE kd a a') (hi : TrE kd i i') (γ : Gr g A X fenv outer f.dep) (W : EnvOK X env kd) (at_ : At X m s ρ σ) (c : Loc X env m s.heap ρ f) (tk : 0 < s.toks)
    (C : Cont X (fenv :: outer) m s ρ ((r.ev a' f σ).bind fun a h => (r.ev i' f h).bind fun i h => lift (idxV h a i) h) (VRc X) Q E) : wpAny (model g.prog g.w) A (eval (.Subscript a i p) env) Q E s :=
  Subscript_ (hr _ _ _ _ _ _ _ _ _ _ _ _ _ _ _ ha γ W at_ c tk (C.bind (RvA := VRc X) fun va σ₁ wa s₁ ρ₁ zz x₁ V₁ C₁ k₁ =>
    hr _ _ _ _ _ _ _ _ _ _ _ _ _ _ _ hi γ W x₁.at_ (c.after at_ x₁) (om22 ‹_› ‹_›) (C₁.bind (RvA := VRc X) fun vi σ₂ wi s₂ ρ₂ zz x₂ V₂ C₂ k₂ =>
      idx_ok ⟨_, x₂.at_.fr.keep _ _ γ.scr.choose_spec.1, γ.scr.choose_spec.2⟩ x₂.at_ (x₂.vr x₁.at_ V₁) V₂ hn C₂)))

theorem E_opt (hr : SE g r) {e : Option Expr} {t : Option T} {Q : Value → Shared → Prop} (h : TrO kd e t) (γ : Gr g A X fenv outer f.dep) (W : EnvOK X env kd) (at_ : At X m s ρ σ) (c : Loc X env m s.heap ρ f) (tk : 0 < s.toks)
    (C : Cont X (fenv :: outer) m s ρ (evOpt r f t σ) (fun h ρ v w => OptR X.G h ρ v w) (fun w s' => s.toks ≤ s'.toks → Q w s') E) : wpAny (model g.prog g.w) A (evalPart e env) Q E s := by
  cases t with
  | none =>
    obtain rfl : e = none := h
    exact wpAny_pure (a := Value.none) (Cont.ok at_ C rfl (Nat.le_refl _))
  | some t =>
    obtain ⟨e, rfl, h⟩ := h
    exact hr _ _ _ _ _ _ _ _ _ _ _ _ _ _ _ h γ W at_ c tk (Cont.bind (RvA := VRc X) C fun va σ₁ wa s₁ ρ₁ zz x₁ V₁ C₁ k₁ => Cont.ok x₁.at_ C₁ V₁ k₁)
theorem OptR.after {lo : Option V} {w : Value} {s' : Shared} {ρ' : Rho} {σ' : Hp} (x : After X m s ρ s' ρ' σ') (a : At X m s ρ σ) (h : OptR X.G s.heap ρ lo w) : OptR X.G s'.heap ρ' lo w := by
  cases lo with
  | none => exact h
  | some v => exact x.vr a h
theorem E_slice (hr : SE g r) {a : Expr} {lo hi : Option Expr} {q p} {a' : T} {lo' hi' : Option T} (ha : TrE kd a a') (hlo : TrO kd lo lo') (hhi : TrO kd hi hi') (γ : Gr g A X fenv outer f.dep) (W : EnvOK X env kd) (at_ : At X m s ρ σ) (c : Loc X env m s.heap ρ f) (tk : 0 < s.toks)
    (C : Cont X (fenv :: outer) m s ρ ((r.ev a' f σ).bind fun a h => (evOpt r f lo' h).bind fun lo h => (evOpt r f hi' h).bind fun hi h => lift (cutV a lo hi) h) (VRc X) Q E) :
    wpAny (model g.prog g.w) A (eval (.Subscript a (.Slice lo hi none q) p) env) Q E s :=
  Subscript_ (hr _ _ _ _ _ _ _ _ _ _ _ _ _ _ _ ha γ W at_ c tk (C.bind (RvA := VRc X) fun va σ₁ wa s₁ ρ₁ zz x₁ V₁ C₁ k₁ => wpAny_Slice (
    E_opt hr hlo γ W x₁.at_ (c.after at_ x₁) (om22 ‹_› ‹_›) (C₁.bind (RvA := fun h ρ v w => OptR X.G h ρ v w) fun vl σ₂ wl s₂ ρ₂ zz x₂ V₂ C₂ k₂ =>
      E_opt hr hhi γ W x₂.at_ ((c.after at_ x₁).after x₁.at_ x₂) (om24 ‹_› ‹_› ‹_›) (C₂.bind (RvA := fun h ρ v w => OptR X.G h ρ v w) fun vh σ₃ wh s₃ ρ₃ zz x₃ V₃ C₃ k₃ =>
        wpAny_pure (cut_ok x₃.at_ (x₃.vr x₂.at_ (x₂.vr x₁.at_ V₁)) (V₂.after x₃ x₂.at_) V₃ C₃))))))

theorem E_attr (hr : SE g r) (TC : TabC P X.G.K) {a : Expr} {x : Str} {p} {i : Nat} {a' : T} (h0 : isCall0 a = false) (hx : nm[i]? = some x) (ha : TrE kd a a') (γ : Gr g A X fenv outer f.dep) (W : EnvOK X env kd) (at_ : At X m s ρ σ) (c : Loc X env m s.heap ρ f) (tk : 0 < s.toks)
    (C : Cont X (fenv :: outer) m s ρ ((r.ev a' f σ).bind fun a h => lift (attrV P h a i) h) (VRc X) Q E) : wpAny (model g.prog g.w) A (eval (.Attribute a x p) env) Q E s := by
  rw [arm_eval_Attribute, attr_base h0]
  refine wpAny_bind (hr _ _ _ _ _ _ _ _ _ _ _ _ _ _ _ ha γ W at_ c tk (C.bind (RvA := VRc X) fun va σ₁ wa s₁ ρ₁ zz x₁ V₁ C₁ k₁ => wpAny_bind (wpAny_standAt (wpAny_bind (wpAny_holding ?_)))))
  refine attr_ok TC γ.K hx x₁.at_ V₁ (Cont.mapE C₁ (fun b s h => ?_) fun zz zz z => z)
  exact wpAny_bind (wpAny_letTemporaryGo (wpAny_pure h))
end
end Mine.Internal
end

section
open PySem PySem.W PyProof.Rows PySem.Calls PySem.SeqAt
set_option autoImplicit false
set_option maxRecDepth 100000
namespace Mine.Internal

noncomputable def biVal : Bi → Value
  | .len => .builtin "len" | .int => .type "int" | .max => .builtin "max" | .str => .type "str" | .ord => .builtin "ord" | .abs => .builtin "abs" | .range => .type "range" | .tuple => .type "tuple"
theorem bi_boot : ∀ b, bootBuiltins (biName b) = some (biVal b)
  | .len => by decide +kernel
  | .int => by decide +kernel
  | .max => by decide +kernel
  | .str => by decide +kernel
  | .ord => by decide +kernel
  | .abs => by decide +kernel
  | .range => by decide +kernel
  | .tuple => by decide +kernel
theorem bi_notName (b : Bi) : biName b ≠ ("__name__" : Str) := by cases b <;> decide +kernel
theorem bi_nd (b : Bi) : (biName b == ("__debug__" : Str)) = false := by cases b <;> decide +kernel

theorem digits_str {n : Nat} : Str.ofString (toString ((n : Nat) : Int)) = ⟨(digits n).toArray⟩ := by
  apply PySem.Str.ext'
  have := KIN.signs_num n
  apply Array.toList_inj.mp
  rw [this]
  rfl
theorem isDigit_all {l : List Nat} (h : l.all isDigit = true) : PySem.NumText.AllDigits l := fun c hc => by
  have := List.all_eq_true.mp h c hc
  simpa [isDigit] using this
theorem numOf_eq (l : List Nat) : PySem.NumText.digitsVal l = numOf l := rfl
theorem log2_lim {n : Nat} (h : n < 1000000) : n.log2 < 1920 := by
  by_cases h0 : n = 0
  · subst h0; decide
  · have : n.log2 < 20 := (Nat.log2_lt h0).mpr (om16 ‹_› rfl)
    exact om16 ‹_› rfl
theorem lim_i63 {n : Nat} (h : n ≤ LIM) : (n : Int) < 2 ^ 63 := by unfold LIM at h; omega

variable {g : Pg} {P : Tab} {r : Rec}
section
variable {f : Fr'} {σ : Hp} {A : Around} {X : Bx} {l : List Env} {m : Str → Option Value} {s : Shared} {ρ : Rho} {Q E : Value → Shared → Prop}

theorem one_w {G : Gd} {h : Heap} {ρ : Rho} {v : V} {ws : List Value} (r : VRs G h ρ [v] ws) : ∃ w, ws = [w] ∧ VR G h ρ v w := by
  match ws, r with
  | [w], r => exact ⟨w, rfl, r.1⟩
  | [], r => exact False.elim r
  | _ :: _ :: _, r => exact r.2.elim
theorem two_w {G : Gd} {h : Heap} {ρ : Rho} {v v' : V} {ws : List Value} (r : VRs G h ρ [v, v'] ws) : ∃ w w', ws = [w, w'] ∧ VR G h ρ v w ∧ VR G h ρ v' w' := by
  match ws, r with
  | w :: ws, r =>
    obtain ⟨w', rfl, r'⟩ := one_w r.2
    exact ⟨w, w', rfl, r.1, r'⟩
  | [], r => exact False.elim r
theorem ContIf {p : Prop} [Decidable p] {v : V} {G : Prop} (C : Cont X l m s ρ (lift (if p then some v else none) σ) (VRc X) Q E) (h : p → Cont X l m s ρ (.ok v σ) (VRc X) Q E → G) : G := by
  by_cases hb : p
  · rw [if_pos hb] at C; exact h hb C
  · rw [if_neg hb] at C; exact C.elim
theorem bi1_ok {b : Bi} {v : V} {w : Value} (sc : s.heap.IsList X.G.sa X.G.sv.toArray) (a : At X m s ρ σ) (R : VR X.G s.heap ρ v w)
    (C : Cont X l m s ρ (lift (biV1 σ b v) σ) (VRc X) Q E) : wpAny (model g.prog g.w) A (PySem.call (biVal b) [w]) Q E s := by
  cases v with
  | str x =>
    obtain ⟨t, rfl⟩ := R
    cases b with
    | len =>
      refine ContIf C fun hb C => ?_
      refine len_str (by rw [str_len]; exact Int.not_le.mpr (lim_i63 hb)) ?_
      rw [str_len]
      exact C.okT a (vr_int _)
    | int =>
      refine ContIf C fun hb C => ?_
      obtain ⟨h0, h1, h2⟩ := hb
      exact KIN.call_text (PySem.intText_digits (isDigit_all h2) h0 (by rw [str_len]; exact om4 ‹_› rfl)) (by rw [str_len]; exact om4 ‹_› rfl) (C.okT a (vr_int _))
    | ord => match x, C with
      | [_], C => exact P.ord_of_char (C.okT a (vr_int _))
      | [], C => exact C.elim
      | _ :: _ :: _, C => exact C.elim
    | _ => exact C.elim
  | lst vs =>
    obtain ⟨rfl, rr⟩ := R
    cases b with
    | len =>
      refine ContIf C fun hb C => ?_
      refine len_list sc (by rw [List.size_toArray, ← rr.length]; exact lim_i63 hb) ?_
      rw [List.size_toArray, ← rr.length]
      exact C.okT a (vr_int _)
    | _ => exact C.elim
  | ref n =>
    match e1 : σ[n]?, (show Cont X l m s ρ (lift (match σ[n]? with
      | some (.list vs) => biL b vs
      | _ => none) σ) (VRc X) Q E from C) with
    | some (.list vs), C =>
      obtain ⟨b', ws', rfl, hl, rr⟩ := a.list e1 R
      cases b with
      | len =>
        refine ContIf C fun hb C => ?_
        refine len_list hl (by rw [List.size_toArray, ← rr.length]; exact lim_i63 hb) ?_
        rw [List.size_toArray, ← rr.length]
        exact C.okT a (vr_int _)
      | tuple =>
        refine ContIf C fun hb C => ?_
        have h2 : ∀ {h' : Heap}, (∀ b o, s.heap.get? b = some o → h'.get? b = some o) → s.heap.get? h'.objs.size = none := fun {h'} hk => by
          cases q : s.heap.get? h'.objs.size with
          | none => rfl
          | some o => exact absurd (Heap.lt_size (hk _ _ q)) (Nat.lt_irrefl _)
        refine call_tuple_list hl (fun h' hk => ?_) (by rw [List.size_toArray, ← rr.length]; exact lim_line hb)
        have x : After X m s ρ { s with heap := h'.push { cls := .type "tuple", data := .seq ws'.toArray }, toks := s.toks } ρ σ :=
          .keep a ((a.fr.grownK hk).push _) fun b o e zz => Heap.get?_push_of_some _ (hk _ _ e)
        exact C _ _ _ x (by
          exact ⟨_, ws', rfl, ⟨⟨_, Heap.get?_push_size _ rfl, rfl, _, rfl⟩, a.nbad (h2 hk)⟩, x.vrs a rr⟩)
      | _ => exact C.elim
    | some (.inst _ _), C => exact C.elim
    | some (.cell _), C => exact C.elim
    | some (.clos _ _), C => exact C.elim
    | none, C => exact C.elim
  | bool c =>
    subst R
    cases b with
    | int => exact call_int_bool ((show Cont X l m s ρ (.ok (.int (if c then 1 else 0)) σ) (VRc X) Q E from C).okT a (vr_int _))
    | _ => exact C.elim
  | int i =>
    obtain ⟨t, rfl⟩ := R
    cases b with
    | int => exact call_int_int (Cont.ok a C (vr_int _))
    | str =>
      refine ContIf C fun hb C => ?_
      obtain ⟨h0, h1⟩ := hb
      refine P.str_of_int (log2_lim (by omega)) ?_
      obtain ⟨n, rfl⟩ := Int.eq_ofNat_of_zero_le h0
      rw [digits_str]
      exact C.okT a (vr_str _)
    | abs => exact call_abs_int fun u tk => (show Cont X l m s ρ (.ok (.int (if i < 0 then -i else i)) σ) (VRc X) Q E from C).okT a (vr_int _)
    | range =>
      refine ContIf C fun hb C => ?_
      refine call_range_1 ?_
      exact C _ _ _ (.keep a (a.fr.push _) fun b o e zz => Heap.get?_push_of_some _ e) (by
        exact ⟨_, _, _, _, rfl, Heap.get?_push_size _ rfl⟩)
    | _ => exact C.elim
  | _ => exact C.elim
theorem maxV_inv {k : V} {P : V → V → Prop} {a b : V} (e : maxV a b = some k) (h : ∀ x y, some (.int (max x y)) = some k → P (.int x) (.int y)) : P a b := by
  cases a with
  | int x => cases b with
    | int y => exact h _ _ e
    | _ => exact no_some e
  | _ => exact no_some e
theorem max_ok {v v' : V} {w w' : Value} (hh : A.handled = none) (a : At X m s ρ σ) (R : VR X.G s.heap ρ v w) (R' : VR X.G s.heap ρ v' w')
    (C : Cont X l m s ρ (lift (maxV v v') σ) (VRc X) Q E) : wpAny (model g.prog g.w) A (PySem.call (biVal .max) [w, w']) Q E s := by
  cases e : maxV v v' with
  | none => rw [e] at C; exact C.elim
  | some k =>
    rw [e] at C
    refine maxV_inv (P := fun v v' => VR X.G s.heap ρ v w → VR X.G s.heap ρ v' w' → wpAny (model g.prog g.w) A (PySem.call (biVal .max) [w, w']) Q E s) e (fun i j e1 R R' => ?_) R R'
    obtain ⟨t, rfl⟩ := R
    obtain ⟨u, rfl⟩ := R'
    cases e1
    refine max_two_N hh a.fr (own_news _ _ _) fun h' tk F' N' => ?_
    have e : (if j > i then j else i) = max i j := by
      rw [Int.max_def]; split <;> split <;> omega
    rw [e]
    exact C _ _ _ (.keep a F' (keep_of_own a.fr F' N' fun zz z => z)) (vr_int _)
theorem bi_ok {b : Bi} {vs : List V} {ws : List Value} (sc : s.heap.IsList X.G.sa X.G.sv.toArray) (hh : A.handled = none) (a : At X m s ρ σ) (Rw : VRs X.G s.heap ρ vs ws)
    (C : Cont X l m s ρ (lift (biV σ b vs) σ) (VRc X) Q E) : wpAny (model g.prog g.w) A (PySem.call (biVal b) ws) Q E s := by
  match vs, C with
  | [], C => exact C.elim
  | [v], C =>
    obtain ⟨w, rfl, R⟩ := one_w Rw
    exact bi1_ok sc a R C
  | [v, v'], C =>
    cases b with
    | max =>
      obtain ⟨w, w', rfl, R, R'⟩ := two_w Rw
      exact max_ok hh a R R' C
    | _ => exact C.elim
  | _ :: _ :: _ :: _, C => exact C.elim

theorem back_plain {kd : Kd} {p : Pos} {env : Env} : ∀ {es : List Expr} {ts : List T}, TrEs kd es ts → (backTo p (starEach es env)).any (·.1) = false
  | _, [], h => by obtain rfl := h.inv0; rfl
  | _, _ :: _, h => by
    obtain ⟨zz, es, rfl, h, hs⟩ := h.inv
    rw [h.star]
    show (false || (backTo p (starEach es env)).any (·.1)) = false
    rw [back_plain hs]; rfl
theorem evalArgs_tr {M : Model} {kd : Kd} {p : Pos} {env : Env} {es : List Expr} {ts : List T} {fv : Value} {Q : Args → Shared → Prop} (h : TrEs kd es ts)
    (hq : wpAny M A (spliced (backTo p (starEach es env))) (fun vs s₁ => Q ⟨vs, []⟩ s₁) E s) : wpAny M A (evalArgs fv true (backTo p (starEach es env)) []) Q E s := by
  cases ts with
  | nil =>
    obtain rfl := h.inv0
    have e : backTo p (starEach [] env) = [] := rfl
    rw [e] at hq ⊢
    refine wpAny_bind (wpAny_mono hq (fun vs s₁ h₁ => wpAny_bind (wpAny_pure (wpAny_holding (wpAny_bind (wpAny_pure (wpAny_bind (wpAny_pure (wpAny_pure h₁)))))))) fun zz zz z => z)
  | cons t ts =>
    obtain ⟨e, es, rfl, h, hs⟩ := h.inv
    rw [h.star] at hq ⊢
    exact evalArgs_plain hq

theorem callWith_go {kd : Kd} {p q : Pos} {env : Env} {es : List Expr} {ts : List T} {fv : Value} {first : List Value} (h : TrEs kd es ts) (hl : es.length < 20)
    (hq : wpAny (model g.prog g.w) A (spliced (backTo q (starEach es env))) (fun vs s₁ => wpAny (model g.prog g.w) A (keeperOf fv) (fun zz s₂ => wpAny (model g.prog g.w) A (PySem.call fv (first ++ vs)) Q E s₂) E s₁) E s) :
    wpAny (model g.prog g.w) A (callWith p fv first (backTo q (starEach es env)) []) Q E s := by
  refine wpAny_bind (wpAny_holding (evalArgs_tr h (wpAny_mono hq (fun vs s₁ h₁ => wpAny_bind (wpAny_standAt ?_)) fun zz zz z => z)))
  have tail : ∀ {t : Sem Value} {s₂ : Shared}, wpAny (model g.prog g.w) A t Q E s₂ → wpAny (model g.prog g.w) A (t >>= fun r => holding [r] point >>= fun zz => pure r) Q E s₂ :=
    fun ht => wpAny_bind (wpAny_mono ht (fun r s₂ hr => wpAny_bind (wpAny_holding (wpAny_point (wpAny_pure hr)))) fun zz zz x => x)
  have hst : ((backTo q (starEach es env)).any (fun x => x.fst) || ([] : List (Option Str × Sem Value)).any fun x => x.fst.isNone) = false := by rw [back_plain h]; rfl
  rw [hst]
  refine wpAny_bind (wpAny_mono h₁ (fun k s₂ h₂ => ?_) fun zz zz z => z)
  cases k with
  | frame =>
    dsimp only
    split
    · exact tail h₂
    · exact tail (by exact Calls.wpAny_keep h₂)
  | boundFrame =>
    dsimp only
    split
    · exact tail h₂
    · exact tail (by exact Calls.wpAny_keep h₂)
  | machine => exact tail h₂
  | caller => exact tail (wpAny_operate' h₂)
theorem keeper_bi (b : Bi) : keeperOf (biVal b) = pure .machine := by cases b <;> rfl

theorem bi_name {K : Frag} {fenv : Env} {outer : List Env} {dep : Nat} (Y : TabE g P X.G.K) {kd : Kd} {env : Env} {b : Bi} {q : Pos} (hk : kd (biName b) = some .globalImplicit) (γ : Gr g A X fenv outer dep) (W : EnvOK X env kd) (a : At X m s ρ σ)
    (h : Q (biVal b) s) : wpAny (model g.prog g.w) A (eval (.Name (biName b) q) env) Q E s :=
  Name_function_global W.kind ((W.kd _).trans hk) (loadGlobal_builtin (env := env) (by rw [W.glob]; exact γ.T.g.keeps a.fr.keep) (mg_none_of γ.K γ.T.g (Y.bi b)) (by rw [W.bltn]; exact γ.T.b.keeps a.fr.keep)
    ((γ.T.builtins _ (bi_notName b)).trans (bi_boot b)) h) (bi_nd b)

theorem E_bi {K : Frag} {fenv : Env} {outer : List Env} (hr : SE g r) (Y : TabE g P X.G.K) {kd : Kd} {env : Env} {b : Bi} {x : Str} {q p : Pos} {es : List Expr} {ts : List T} (hk : kd x = some .globalImplicit) (hx : x = biName b) (h : TrEs kd es ts) (hl : es.length < 20)
    (γ : Gr g A X fenv outer f.dep) (W : EnvOK X env kd) (at_ : At X m s ρ σ) (c : Loc X env m s.heap ρ f) (tk : 0 < s.toks)
    (C : Cont X (fenv :: outer) m s ρ ((evs r f ts σ).bind fun as h => lift (biV h b as) h) (VRc X) Q E) : wpAny (model g.prog g.w) A (eval (.Call (.Name x q) es [] p) env) Q E s := by
  subst hx
  refine wpAny_Call_ofName (bi_name (K := K) Y hk γ W at_ (callWith_go h hl (E_evs hr γ W p h at_ c tk (Cont.bind (RvA := fun h ρ vs ws => VRs X.G h ρ vs ws) C fun vs σ₁ ws s₁ ρ₁ e x₁ V₁ C₁ k₁ => ?_))))
  rw [keeper_bi]
  exact wpAny_pure (bi_ok ⟨_, x₁.at_.fr.keep _ _ γ.scr.choose_spec.1, γ.scr.choose_spec.2⟩ γ.hh x₁.at_ V₁ C₁)
end
end Mine.Internal
end

section
open PySem PySem.W PyProof.Rows PySem.Calls PySem.SeqAt
set_option autoImplicit false
set_option maxRecDepth 100000
namespace Mine.Internal

theorem lk_putS {α : Type} (x y : Nat) (v : α) : ∀ l : List (Nat × α), lk y (put x v l) = if y = x then some v else lk y l
  | [] => by
    rw [put_nil, lk_cons, lk_nil]
    by_cases h : y = x
    · subst h; rw [Nat.beq_refl, if_pos rfl, if_pos rfl]
    · rw [if_neg h, if_neg (fun q => h (Nat.eq_of_beq_eq_true q))]
  | (z, w) :: r => by
    rw [put_cons]
    by_cases hz : x = z
    · subst hz
      rw [Nat.beq_refl, if_pos rfl]
      rw [lk_cons, lk_cons]
      by_cases h : y = x
      · subst h; rw [Nat.beq_refl, if_pos rfl, if_pos rfl]
      · rw [if_neg h, if_neg (fun q => h (Nat.eq_of_beq_eq_true q)), if_neg (fun q => h (Nat.eq_of_beq_eq_true q))]
    · rw [if_neg (fun q => hz (Nat.eq_of_beq_eq_true q))]
      rw [lk_cons, lk_cons]
      by_cases h : y = z
      · subst h; rw [Nat.beq_refl, if_pos rfl, if_pos rfl, if_neg (fun q => hz q.symm)]
      · rw [if_neg (fun q => h (Nat.eq_of_beq_eq_true q)), if_neg (fun q => h (Nat.eq_of_beq_eq_true q))]
        exact lk_putS x y v r

section
variable {M : Model} {A : Around} {X : Bx} {env : Env} {m : Str → Option Value} {s : Shared} {ρ : Rho} {σ : Hp} {f : Fr'} {kd : Kd} {E : Value → Shared → Prop}

theorem Loc.own (c : Loc X env m s.heap ρ f) (hL : env.locals = X.L) : ∀ x v, lk x f.loc = some v → ∃ z w, nm[x]? = some z ∧ m z = some w ∧ VR X.G s.heap ρ v w := by
  obtain ⟨⟨mC, h | h, hv⟩, zz⟩ := c
  · obtain ⟨zz, rfl⟩ := h; exact hv
  · exact absurd (by rw [hL]; exact .head _) h.1

structure Stored (X : Bx) (env : Env) (m : Str → Option Value) (s : Shared) (ρ : Rho) (f : Fr') (l : List (Nat × V)) (σ' : Hp) (m' : Str → Option Value) (s' : Shared) : Prop where
  after : After X m' s ρ s' ρ σ'
  loc : Loc X env m' s'.heap ρ ⟨l, f.cel, f.dep⟩
  toks : s.toks ≤ s'.toks

theorem store_name {x : Str} {i : Nat} {v : V} {w : Value} {Q : Unit → Shared → Prop} (hx : nm[i]? = some x) (hk : kd x = some .local) (W : EnvOK X env kd) (hL : env.locals = X.L) (a : At X m s ρ σ) (c : Loc X env m s.heap ρ f)
    (Vv : VR X.G s.heap ρ v w) (hq : ∀ m' s', Stored X env m s ρ f (put i v f.loc) σ m' s' → Q () s') : wpAny M A (storeName env x w) Q E s := by
  have hns : s.heap.Ns env.locals m := by rw [hL]; exact a.fr.ns
  refine wpAny_storeName_local ((W.kd x).trans hk) hns (fun h' hn hs => ?_) (by rw [W.kind]; rfl)
  rw [hL] at hn hs
  have x : After X (fun y => if y = x then some w else m y) s ρ { s with heap := h', toks := s.toks + 1 } ρ σ := .keep a (a.fr.set hn hs) fun b o e hb => (hs.2 b hb).trans e
  refine hq _ _ ⟨x, ⟨⟨_, .inl ⟨hL, rfl⟩, fun y u e => ?_⟩, c.cel⟩, Nat.le_succ _⟩
  rw [lk_putS] at e
  by_cases hy : y = i
  · subst hy
    rw [if_pos rfl] at e; cases e
    exact ⟨_, w, hx, if_pos rfl, x.vr a Vv⟩
  · rw [if_neg hy] at e
    obtain ⟨z, w', e1, e2, e3⟩ := c.own hL y u e
    exact ⟨z, w', e1, (if_neg (c := z = _) fun (q : z = _) => hy (nm_inj e1 (q ▸ hx))).trans e2, x.vr a e3⟩

theorem store_cell {x : Str} {i n : Nat} {v : V} {v₀ : Option V} {w : Value} {Q : Unit → Shared → Prop} (hx : nm[i]? = some x) (hk : kd x = some .cell) (W : EnvOK X env kd) (a : At X m s ρ σ) (c : Loc X env m s.heap ρ f)
    (Vv : VR X.G s.heap ρ v w) (hn : lk i f.cel = some n) (ho : σ[n]? = some (.cell v₀)) (hq : ∀ s', Stored X env m s ρ f f.loc (σ.set n (.cell (some v))) m s' → Q () s') : wpAny M A (storeName env x w) Q E s := by
  obtain ⟨z, p, e1, e2, e3⟩ := c.cel i n hn
  rw [hx] at e1; cases e1
  have oo := a.rel.at ho e2
  obtain ⟨hq1, o, w₀, o1, o2, o3⟩ := oo
  refine wpAny_storeName_cell W.kind ((W.kd _).trans hk) e3 ⟨o, o1, o2⟩ fun h' hv hs => ?_
  have hnew := a.rel.new p (List.mem_of_getElem? e2)
  have F' : Fr X.h₀ X.L h' m := ⟨a.fr.ns.sameBut hs (fun q => hnew.2 (q ▸ .head _)), fun b ob e => (hs.2 b (fun q => by rw [q, hnew.1] at e; cases e)).trans (a.fr.keep b ob e), a.fr.above⟩
  have x : After X m s ρ { s with heap := h', toks := s.toks } ρ (σ.set n (.cell (some v))) := .upd a F' e2 (fun b ob e zz hb => (hs.2 b hb).trans e) fun y => by
    obtain ⟨o', ho', hd'⟩ := hv
    exact ⟨hq1, o', some w, ho', hd', y.vr a.rel Vv⟩
  exact hq _ ⟨x, (c.after a x), Nat.le_refl _⟩

theorem Stored.trans {m' m'' : Str → Option Value} {s' s'' : Shared} {l l' : List (Nat × V)} {σ' σ'' : Hp} (x : Stored X env m s ρ f l σ' m' s') (y : Stored X env m' s' ρ ⟨l, f.cel, f.dep⟩ l' σ'' m'' s'') : Stored X env m s ρ f l' σ'' m'' s'' :=
  ⟨x.after.trans y.after, y.loc, Nat.le_trans x.toks y.toks⟩
theorem Stored.pre {m' : Str → Option Value} {s' s₁ : Shared} {l : List (Nat × V)} {σ' σ₁ : Hp} (x : After X m s ρ s₁ ρ σ₁) (hx : s.toks ≤ s₁.toks) (y : Stored X env m s₁ ρ f l σ' m' s') : Stored X env m s ρ f l σ' m' s' :=
  ⟨x.trans y.after, y.loc, Nat.le_trans hx y.toks⟩

theorem TrTg.star {e : Expr} {t : Tg} (h : TrTg kd e t) (rest : List Expr) (env : Env) : assignEach (e :: rest) env = (false, assign e env) :: assignEach rest env := by
  cases t <;> first | (obtain ⟨zz, zz, rfl, -⟩ := h; rfl) | (obtain ⟨zz, zz, zz, rfl, -⟩ := h; rfl)
theorem TrTgs.inv {kd : Kd} {es : List Expr} {t : Tg} {ts : List Tg} (h : TrTgs kd es (t :: ts)) : ∃ e r, es = e :: r ∧ TrTg kd e t ∧ TrTgs kd r ts := h
theorem TrTgs.inv0 {kd : Kd} {es : List Expr} (h : TrTgs kd es []) : es = [] := h
theorem TrTgs.hd {e : Expr} {es : List Expr} {t : Tg} {ts : List Tg} (h : TrTgs kd (e :: es) (t :: ts)) : TrTg kd e t ∧ TrTgs kd es ts := by
  obtain ⟨zz, zz, q, h⟩ := h
  cases q; exact h
theorem TrTgs.no {t : Tg} {ts : List Tg} (h : TrTgs kd [] (t :: ts)) : False := by
  obtain ⟨zz, zz, q, -⟩ := h
  cases q
theorem tgs_plain (env : Env) : ∀ {es : List Expr} {ts : List Tg}, TrTgs kd es ts → (assignEach es env).findIdx? (·.1) = none
  | _, [], h => by obtain rfl := h.inv0; rfl
  | _, _ :: _, h => by
    obtain ⟨zz, zz, rfl, h, hs⟩ := h.inv
    rw [h.star, List.findIdx?_cons, tgs_plain env hs]
    rfl
theorem tgs_len (env : Env) : ∀ {es : List Expr} {ts : List Tg}, TrTgs kd es ts → (assignEach es env).length = ts.length
  | _, [], h => by obtain rfl := h.inv0; rfl
  | _, _ :: _, h => by
    obtain ⟨zz, zz, rfl, h, hs⟩ := h.inv
    rw [h.star, List.length_cons, List.length_cons, tgs_len env hs]
theorem asgTs_len : ∀ {ts : List Tg} {f : Fr'} {σ : Hp} {vs : List V} {r : List (Nat × V) × Hp}, asgTs f σ ts vs = some r → ts.length = vs.length
  | [], f, σ, vs, r, e => by obtain ⟨rfl, -⟩ := asgTs_nil e; rfl
  | t :: ts, f, σ, vs, r, e => by
    obtain ⟨v, vs, l, h, rfl, -, e⟩ := asgTs_cons e
    exact congrArg (· + 1) (asgTs_len e)
end

section
variable {prog : Program} {w₀ : World} {A : Around} {X : Bx} {env : Env} {kd : Kd} {E : Value → Shared → Prop}
mutual
theorem asg_ok (W : EnvOK X env kd) (hL : env.locals = X.L) (hh : A.handled = none) : ∀ {e : Expr} {t : Tg} {m : Str → Option Value} {s : Shared} {ρ : Rho} {σ σ' : Hp} {f : Fr'} {v : V} {w : Value} {l : List (Nat × V)} {Q : Unit → Shared → Prop}, TrTg kd e t → At X m s ρ σ → Loc X env m s.heap ρ f →
    VR X.G s.heap ρ v w → asgT f σ t v = some (l, σ') → (∀ m' s', Stored X env m s ρ f l σ' m' s' → Q () s') → wpAny (model prog w₀) A (assign e env w) Q E s
  | _, .name i, m, s, ρ, σ, σ', f, v, w, l, Q, h, a, c, Vv, e, hq => by
    obtain ⟨x, p, rfl, hx, hk⟩ := h
    cases e
    exact assign_Name (store_name hx hk W hL a c Vv hq)
  | _, .cel i, m, s, ρ, σ, σ', f, v, w, l, Q, h, a, c, Vv, e, hq => by
    obtain ⟨x, p, rfl, hx, hk⟩ := h
    obtain ⟨n, o, hn, ho, e⟩ := asgT_cel e
    cases e
    exact assign_Name (store_cell hx hk W a c Vv hn ho fun s' st => hq m s' st)
  | _, .tup ts, m, s, ρ, σ, σ', f, v, w, l, Q, h, a, c, Vv, e, hq => by
    obtain ⟨es, k, p, rfl, h⟩ := h
    obtain ⟨vs, rfl, e⟩ := asgT_tup e
    obtain ⟨b, ws, rfl, ⟨ht, -⟩, r⟩ := Vv
    show wpAny _ A (do standAt p; unpack (.ref b) (assignEach es env)) Q E s
    refine wpAny_bind (wpAny_standAt ?_)
    unfold unpack
    rw [tgs_plain env h]
    have hz : (assignEach es env).length = ws.toArray.size := by rw [tgs_len env h, List.size_toArray, ← r.length, asgTs_len e]
    rw [hz]
    refine wpAny_bind (wpAny_holding (unpackItems_tuple hh ht fun h' he => ?_))
    have x : After X m s ρ { s with heap := h', toks := s.toks } ρ σ := .keep a (a.fr.extBut he (Nat.le_refl _)) fun b o e' hb => he b o (Nat.ne_of_lt (Heap.lt_size e')) e'
    exact asgs_ok W hL hh h x.at_ (c.after a x) (x.vrs a r) e fun m' s' st => hq m' s' (st.pre x (Nat.le_refl _))
theorem asgs_ok (W : EnvOK X env kd) (hL : env.locals = X.L) (hh : A.handled = none) : ∀ {es : List Expr} {ts : List Tg} {m : Str → Option Value} {s : Shared} {ρ : Rho} {σ σ' : Hp} {f : Fr'} {vs : List V} {ws : List Value} {l : List (Nat × V)} {Q : Unit → Shared → Prop}, TrTgs kd es ts → At X m s ρ σ → Loc X env m s.heap ρ f →
    VRs X.G s.heap ρ vs ws → asgTs f σ ts vs = some (l, σ') → (∀ m' s', Stored X env m s ρ f l σ' m' s' → Q () s') → wpAny (model prog w₀) A (assignInOrder ((assignEach es env).map (·.2)) ws) Q E s
  | _, [], m, s, ρ, σ, σ', f, vs, ws, l, Q, h, a, c, Vv, e, hq => by
    obtain rfl := h.inv0
    obtain ⟨rfl, e⟩ := asgTs_nil e
    cases e
    obtain rfl := Vv.nil
    exact wpAny_pure (hq m s ⟨.refl a, c, Nat.le_refl _⟩)
  | _, t :: ts, m, s, ρ, σ, σ', f, vs, ws, l, Q, h, a, c, Vv, e, hq => by
    obtain ⟨zz, es, rfl, ht, hs⟩ := h.inv
    obtain ⟨v, vs, l₁, σ₁, rfl, e₁, e⟩ := asgTs_cons e
    obtain ⟨w, ws, rfl, Vv1, Vv2⟩ := Vv.cons
    rw [ht.star]
    show wpAny _ A (do holding ws (assign _ env w); assignInOrder ((assignEach es env).map (·.2)) ws) Q E s
    refine wpAny_bind (wpAny_holding (asg_ok W hL hh ht a c Vv1 e₁ fun m₁ s₁ st => ?_))
    exact asgs_ok W hL hh hs st.after.at_ st.loc (st.after.vrs a Vv2) e fun m₂ s₂ st₂ => hq m₂ s₂ (st.trans st₂)
end
end
end Mine.Internal
end

section
open PySem PySem.W PyProof.Rows PySem.Calls PySem.SeqAt
set_option autoImplicit false
set_option maxRecDepth 100000
namespace Mine.Internal

theorem lookup_zip {α : Type} : ∀ {ns : List Str} {vs : List α} {j : Nat} {n : Str}, ns.Nodup → ns[j]? = some n → (ns.zip vs).lookup n = vs[j]?
  | [], _, _, _, _, e => by simp at e
  | a :: r, [], j, n, _, e => by simp
  | a :: r, v :: vs, 0, n, _, e => by
    simp at e; subst e
    simp [List.lookup_cons]
  | a :: r, v :: vs, j + 1, n, hn, e => by
    simp at e
    obtain ⟨h1, h2⟩ := List.nodup_cons.mp hn
    have hne : (n == a) = false := beq_eq_false_iff_ne.mpr fun q => h1 (q ▸ List.mem_of_getElem? e)
    rw [List.zip_cons_cons, List.lookup_cons, hne]
    simpa using lookup_zip (vs := vs) h2 e

noncomputable def stepD (s : List (Str × Value)) (p : Str × Value) : List (Str × Value) := if (s.lookup p.1).isNone then s ++ [p] else s
theorem lookup_foldD (n : Str) : ∀ (l : List (Str × Value)) (s : List (Str × Value)), (l.foldl stepD s).lookup n = (s.lookup n).or (l.lookup n)
  | [], s => by simp
  | (k, d) :: r, s => by
    rw [List.foldl_cons, lookup_foldD n r]
    unfold stepD
    rw [List.lookup_cons]
    cases hk : s.lookup k with
    | none =>
      simp only [Option.isNone_none, if_true]
      rw [List.lookup_append, List.lookup_cons, List.lookup_nil]
      cases hb : n == k with
      | true => rw [eq_of_beq hb, hk]; simp
      | false => simp
    | some v =>
      simp only [Option.isNone_some, Bool.false_eq_true, if_false]
      cases hb : n == k with
      | true => rw [eq_of_beq hb, hk]; simp
      | false => simp
theorem forIn_foldD : ∀ (l : List (Str × Value)) (s : List (Str × Value)) (f : Str × Value → List (Str × Value) → Sem (ForInStep (List (Str × Value)))), (∀ p s, f p s = pure (.yield (stepD s p))) → forIn l s f = pure (l.foldl stepD s)
  | [], s, f, _ => by rw [List.forIn_nil]; rfl
  | p :: r, s, f, h => by
    rw [List.forIn_cons, h, pure_bind]
    exact forIn_foldD r _ f h
theorem filterMap_congr' {α β : Type} {f g : α → Option β} : ∀ {l : List α}, (∀ x ∈ l, f x = g x) → l.filterMap f = l.filterMap g
  | [], _ => rfl
  | a :: r, h => by
    rw [List.filterMap_cons, List.filterMap_cons, h a List.mem_cons_self, filterMap_congr' (l := r) fun x hx => h x (List.mem_cons_of_mem _ hx)]
theorem filterMap_zip : ∀ {ns : List Str} {vs : List Value}, ns.Nodup → ns.length = vs.length → (ns.filterMap fun n => ((ns.zip vs).lookup n).map fun x => (n, x)) = ns.zip vs
  | [], _, _, _ => by simp
  | a :: r, [], _, h => by simp at h
  | a :: r, v :: vs, hn, hl => by
    obtain ⟨h1, h2⟩ := List.nodup_cons.mp hn
    rw [List.filterMap_cons, List.zip_cons_cons, List.lookup_cons, beq_self_eq_true]
    simp only [Option.map_some]
    congr 1
    have ih := filterMap_zip (vs := vs) h2 (by simpa using hl)
    rw [← ih]
    apply filterMap_congr'
    intro n hnr
    have hne : (n == a) = false := beq_eq_false_iff_ne.mpr fun q => h1 (q ▸ hnr)
    rw [List.lookup_cons, hne, ih]

theorem wp_foldD {M : Model} {A : Around} {E : Value → Shared → Prop} {Q : List (Str × Value) → Shared → Prop} {st : Shared} {l : List (Str × Value)} {s : List (Str × Value)} {f : Str × Value → List (Str × Value) → Sem (ForInStep (List (Str × Value)))}
    (h : ∀ p s, f p s = pure (.yield (stepD s p))) (hq : Q (l.foldl stepD s) st) : wpAny M A (forIn l s f) Q E st := by
  rw [forIn_foldD l s f h]; exact wpAny_pure hq
theorem wp_ifn {α : Type} {M : Model} {A : Around} {E : Value → Shared → Prop} {Q : α → Shared → Prop} {st : Shared} {b : Bool} {x y : Sem α} (e : b = false) (h : wpAny M A y Q E st) : wpAny M A (if b then x else y) Q E st := by
  subst e; exact h
section
variable {ns : List Str} {ws ds : List Value}
theorem drop_all (hl2 : ds.length ≤ ns.length) : ds.drop (ds.length - ns.length) = ds := by rw [Nat.sub_eq_zero_of_le hl2]; rfl
theorem bd_none (hnd : ns.Nodup) (hl3 : ns.length ≤ ws.length + ds.length) : ((ns.take (ns.length - ds.length)).filter (fun n => (List.lookup n (ns.zip ws)).isNone)) = [] := by
  refine List.filter_eq_nil_iff.mpr fun n hn => ?_
  obtain ⟨j, hj⟩ := List.getElem?_of_mem hn
  have hlt : j < ns.length - ds.length := by
    have h := (List.getElem?_eq_some_iff.mp hj).1
    rw [List.length_take] at h
    exact Nat.lt_of_lt_of_le h (Nat.min_le_left _ _)
  rw [List.getElem?_take_of_lt hlt] at hj
  rw [lookup_zip hnd hj, List.getElem?_eq_getElem (Nat.lt_of_lt_of_le hlt (Nat.sub_le_of_le_add hl3))]
  exact Bool.false_ne_true
theorem bd_len (hl : ws.length ≤ ns.length) (hl3 : ns.length ≤ ws.length + ds.length) : ns.length = (ws ++ ds.drop (ws.length + ds.length - ns.length)).length := by
  rw [List.length_append, List.length_drop, Nat.sub_sub_right _ hl3, Nat.add_comm ws.length ds.length, Nat.add_comm ds.length ns.length, Nat.add_comm ds.length ws.length, Nat.add_sub_add_right, Nat.add_sub_cancel' hl]
theorem bd_sub {n a d j : Nat} (h2 : d ≤ n) (h3 : n ≤ a + d) (hj : a ≤ j) : j - (n - d) = (a + d - n) + (j - a) := by
  have h : n - d ≤ a := Nat.sub_le_of_le_add h3
  rw [← Nat.sub_add_sub_cancel hj h, Nat.add_comm, Nat.sub_sub_right _ h2]
theorem bd_all (hnd : ns.Nodup) (hl : ws.length ≤ ns.length) (hl2 : ds.length ≤ ns.length) (hl3 : ns.length ≤ ws.length + ds.length) :
    (ns.filterMap fun n => (List.lookup n (List.foldl stepD (ns.zip ws) ((ns.drop (ns.length - ds.length)).zip ds))).map fun x => (n, x)) = ns.zip (ws ++ ds.drop (ws.length + ds.length - ns.length)) := by
  refine Eq.trans (filterMap_congr' fun n hn => ?_) (filterMap_zip hnd (bd_len hl hl3))
  obtain ⟨j, hj⟩ := List.getElem?_of_mem hn
  refine congrArg (Option.map _) ?_
  rw [lookup_foldD, lookup_zip hnd hj, lookup_zip hnd hj]
  rcases Nat.lt_or_ge j ws.length with hw | hw
  · rw [List.getElem?_append_left hw, List.getElem?_eq_getElem hw]; rfl
  · rw [List.getElem?_append_right hw, List.getElem?_eq_none hw, Option.none_or, List.getElem?_drop, ← bd_sub hl2 hl3 hw]
    refine lookup_zip (List.Nodup.sublist (List.drop_sublist _ _) hnd) ?_
    rw [List.getElem?_drop, Nat.add_sub_cancel' (Nat.le_trans (Nat.sub_le_of_le_add hl3) hw), hj]
end
theorem bd_fin {ns : List Str} {ws ds : List Value} {kw : List Arg} (hk : kw = []) (hnd : ns.Nodup) (hl : ws.length ≤ ns.length) (hl2 : ds.length ≤ ns.length) (hl3 : ns.length ≤ ws.length + ds.length) :
    ((ns ++ kw.map (·.arg)).filterMap fun n => (List.lookup n (List.foldl stepD (ns.zip ws) ((ns.drop (ns.length - (ds.drop (ds.length - ns.length)).length)).zip (ds.drop (ds.length - ns.length))))).map fun x => (n, x)) = ns.zip (ws ++ ds.drop (ws.length + ds.length - ns.length)) := by
  cases hk
  rw [drop_all hl2, List.map_nil, List.append_nil, bd_all hnd hl hl2 hl3]
theorem stepD_eq (s : List (Str × Value)) (p : Str × Value) : (if (List.lookup p.1 s).isNone = true then (pure (ForInStep.yield (s ++ [(p.1, p.2)])) : Sem (ForInStep (List (Str × Value)))) else pure (ForInStep.yield s)) = pure (ForInStep.yield (stepD s p)) := by
  unfold stepD
  cases (List.lookup p.1 s).isNone <;> rfl
theorem wp_forNil {α β : Type} {M : Model} {A : Around} {E : Value → Shared → Prop} {Q : β → Shared → Prop} {st : Shared} {l : List α} {s : β} {f : α → β → Sem (ForInStep β)}
    (h : l = []) (hq : Q s st) : wpAny M A (forIn l s f) Q E st := by
  cases h; exact wpAny_pure hq
theorem binds_gen {s : Shared} {fd : FuncData} {ns : List Str} {ws ds : List Value} (h1 : fd.params.posonlyargs = []) (h2 : fd.params.vararg = none) (h3 : fd.params.kwonlyargs = []) (h4 : fd.params.kwarg = none) (hns : fd.params.args.map (·.arg) = ns)
    (hnd : ns.Nodup) (hd : ∀ (M : Model) (A : Around) (E : Value → Shared → Prop) (Q : Option (Array Value) → Shared → Prop), (∀ o : Option (Array Value), (o.getD #[]).toList = ds → Q o s) → wpAny M A (seqItems? fd.defaults) Q E s)
    (hl : ws.length ≤ ns.length) (hl2 : ds.length ≤ ns.length) (hl3 : ns.length ≤ ws.length + ds.length) :
    BindsTo s fd ⟨ws, []⟩ (ns.zip (ws ++ ds.drop (ws.length + ds.length - ns.length))) := by
  intro M A E Q hq
  have hp : fd.params.posonlyargs.map (·.arg) ++ fd.params.args.map (·.arg) = ns := by rw [h1]; exact hns
  clear hns h1
  refine wpAny_bind (wpAny_pure (wpAny_bind (hd _ _ _ _ fun o ho => ?_)))
  clear hd
  cases hp; cases ho
  refine wp_ifn (Bool.and_eq_false_imp.mpr fun q => absurd (of_decide_eq_true q) (Nat.not_lt.mpr hl)) ?_
  refine wp_ifn ((congrArg (fun d => !List.isEmpty (List.filter (fun n => (List.lookup n (List.zip _ ws)).isNone) (List.take (List.length _ - List.length d) _))) (drop_all hl2)).trans (congrArg (fun l => !List.isEmpty l) (bd_none hnd hl3))) ?_
  refine wpAny_bind (wp_foldD (fun p s => ?_) ?_)
  · exact stepD_eq s p
  refine wpAny_bind (wp_forNil (by rw [h3]; rfl) ?_)
  rw [h2, h4]
  refine wpAny_pure ?_
  exact Eq.mpr (congrArg (fun b => Q b s) (bd_fin h3 hnd hl hl2 hl3)) hq
end Mine.Internal
end

section
open PySem PySem.W PyProof.Rows PySem.Calls PySem.SeqAt
set_option autoImplicit false
set_option maxRecDepth 100000
namespace Mine.Internal

noncomputable def kindOfN : NameKind → Bool := fun k => k == .cell

noncomputable def DfOk (K : Frag) (dv : Value) (ds : List V) : Prop :=
  (dv = .none ∧ ds = []) ∨ ∃ T o ws n, dv = .ref T ∧ K.lookup T = some o ∧ o.data = .seq ws n ∧ GVs K ds ws.toList
structure FnOk (K : Frag) (fd : FuncData) (fi : FI) : Prop where
  body : ∃ b, fd.body = .stmts b ∧ TrFn fd.params fd.scope b fi
  glob : fd.globals = mainGlobals
  bltn : fd.builtins = builtinsNs
  dflt : DfOk K fd.defaults fi.dflts

section
variable {X : Bx} {m m' : Str → Option Value} {s s' : Shared} {ρ ρ' : Rho} {σ σ' : Hp}

@[reducible] def Bx.push (X : Bx) (L' : Addr) (oL : Obj) : Bx := { X with L := L', frs := (X.L, oL) :: X.frs }

noncomputable abbrev frameObj : Obj := { cls := .type "frame", data := .dict #[] }

theorem At.frame (a : At X m s ρ σ) : ∃ oL, s.heap.get? X.L = some oL := let ⟨o, _, _, e, _⟩ := a.fr.ns; ⟨o, e⟩

theorem At.enter (a : At X m s ρ σ) {oL : Obj} (hL : s.heap.get? X.L = some oL) :
    At (X.push s.heap.objs.size oL) (fun zz => none) { s with heap := s.heap.push frameObj } ρ σ := by
  have k : ∀ b o, s.heap.get? b = some o → (s.heap.push frameObj).get? b = some o := fun b o e => Heap.get?_push_of_some _ e
  have lt : ∀ {b o}, s.heap.get? b = some o → b ≠ s.heap.objs.size := fun e => Nat.ne_of_lt (Heap.lt_size e)
  have x : Ext X.fa s.heap ρ (s.heap.push frameObj) ρ := ⟨⟨[], by simp, fun zz hp => nomatch hp⟩, fun b o e zz zz => k b o e⟩
  refine ⟨⟨Heap.Ns.new _ _, fun b o e => k b o (a.fr.keep b o e), Nat.le_trans a.fr.above (Nat.le_of_lt (Heap.lt_size hL))⟩, ⟨a.rel.len, fun n o e => ?_, fun p hp => ⟨(a.rel.new p hp).1, fun q => ?_⟩, a.rel.nod, fun b hb => ?_⟩, fun q hq => ?_, fun q hq => ?_, a.bad_of fun b o e => ⟨o, k b o e⟩⟩
  · obtain ⟨p, hp, ho⟩ := a.rel.obj n o e
    exact ⟨p, hp, ho.carry x a.rel fun o e => k _ _ e⟩
  · rcases List.mem_cons.mp q with q | q
    · obtain ⟨o, e, zz⟩ := a.rel.mut hp
      exact lt e q
    · exact (a.rel.new p hp).2 q
  · rcases List.mem_cons.mp hb with rfl | hb
    · exact ⟨_, Heap.get?_push_size _ rfl, _, _, rfl⟩
    · rcases List.mem_cons.mp hb with rfl | hb
      · obtain ⟨o, es, n, e, d, zz⟩ := a.fr.ns
        exact ⟨o, k _ _ e, es, n, d⟩
      · obtain ⟨o, e, d⟩ := a.rel.mutF b (.tail _ hb)
        exact ⟨o, k _ _ e, d⟩
  · rcases List.mem_cons.mp hq with rfl | hq
    · exact ⟨oL.slots, k _ _ hL⟩
    · obtain ⟨sl, e⟩ := a.out q hq
      exact ⟨sl, k _ _ e⟩
  · rcases List.mem_cons.mp hq with rfl | hq
    · refine ⟨?_, lt hL⟩
      cases e : X.h₀.get? X.L with
      | none => rfl
      | some o => exact absurd (Heap.lt_size e) (Nat.not_lt.mpr a.fr.above)
    · obtain ⟨sl, e⟩ := a.out q hq
      exact ⟨(a.apart q hq).1, lt e⟩

theorem At.leave (a : At X m s ρ σ) {oL : Obj} (hL : s.heap.get? X.L = some oL) (x : After (X.push s.heap.objs.size oL) m' { s with heap := s.heap.push frameObj } ρ s' ρ' σ') :
    After X m s ρ s' ρ' σ' := by
  obtain ⟨h', tk', e0⟩ := x.eq
  have oo := fun q hq => x.at_.out q (.tail _ hq)
  obtain ⟨sl, eL⟩ := x.at_.out (X.L, oL) (.head _)
  have nL : s.heap.get? s.heap.objs.size = none := get_size
  have Fn : s'.heap.Ns X.L m := by
    obtain ⟨o, es, n, e, d, r⟩ := a.fr.ns
    rw [hL] at e; cases e
    exact ⟨_, es, n, eL, d, r⟩
  refine ⟨⟨h', tk', e0⟩, ⟨⟨Fn, x.at_.fr.keep, a.fr.above⟩, ⟨x.at_.rel.len, x.at_.rel.obj, fun p hp => ⟨(x.at_.rel.new p hp).1, fun q => (x.at_.rel.new p hp).2 (.tail _ q)⟩, x.at_.rel.nod, fun b hb => x.at_.rel.mutF b (.tail _ hb)⟩, oo, a.apart, x.at_.bad⟩, ?_⟩
  obtain ⟨t, ht, hn⟩ := x.ext.pre
  refine ⟨⟨t, ht, fun p hp => ?_⟩, fun b o e hb hf => x.ext.keep b o (Heap.get?_push_of_some _ e) hb fun q => ?_⟩
  · cases q : s.heap.get? p.2 with
    | none => rfl
    | some o => have := hn p hp; rw [show ({ s with heap := s.heap.push frameObj } : Shared).heap.get? p.2 = some o from Heap.get?_push_of_some _ q] at this; cases this
  · rcases List.mem_cons.mp q with q | q
    · rw [q, nL] at e; cases e
    · exact hf q
end

section
variable {M : Model} {A : Around} {X : Bx} {env : Env} {kd : Kd} {E : Value → Shared → Prop}
theorem CelRel.cons {ρ : Rho} {cel : List (Nat × Nat)} {cs : List (Str × Addr)} {i n : Nat} {x : Str} {p : Addr × Addr} (h : CelRel ρ cel cs) (hx : nm[i]? = some x) (hp : ρ[n]? = some p) : CelRel ρ ((i, n) :: cel) ((x, p.2) :: cs) := by
  intro y k e
  rw [lk_cons] at e
  by_cases hy : y = i
  · subst hy
    rw [Nat.beq_refl, if_pos rfl] at e; cases e
    exact ⟨x, p, hx, hp, by rw [List.lookup_cons, beq_self_eq_true]⟩
  · rw [if_neg (fun q => hy (Nat.eq_of_beq_eq_true q))] at e
    obtain ⟨z, q, e1, e2, e3⟩ := h y k e
    refine ⟨z, q, e1, e2, ?_⟩
    have hne : (z == x) = false := beq_eq_false_iff_ne.mpr fun w => hy (nm_inj e1 (w ▸ hx))
    rw [List.lookup_cons, hne]; exact e3

theorem cells_ok (f : Str × NameKind → List (Str × Addr) → Sem (ForInStep (List (Str × Addr))))
    (hf : ∀ name kind cells, f (name, kind) cells = if kind == .cell then (do let a ← alloc { cls := .type "cell", data := .cell none }; pure (.yield ((name, a) :: cells))) else pure (.yield cells)) :
    ∀ (names : List (Str × NameKind)) (cs : List Nat) (acc : List (Nat × Nat)) (cells : List (Str × Addr)) {m : Str → Option Value} {s : Shared} {ρ : Rho} {σ : Hp} (Q : List (Str × Addr) → Shared → Prop), cellsB names cs = true → At X m s ρ σ → CelRel ρ acc cells →
      (∀ s' ρ' cells', After X m s ρ s' ρ' (mkCells cs acc σ).2 → CelRel ρ' (mkCells cs acc σ).1 cells' → s.toks ≤ s'.toks → Q cells' s') → wpAny M A (forIn names cells f) Q E s
  | [], cs, acc, cells, m, s, ρ, σ, Q, hc, a, C, hq => by
    cases cs with
    | nil => rw [List.forIn_nil]; exact wpAny_pure (hq s ρ cells (.refl a) C (Nat.le_refl _))
    | cons _ _ => exact nomatch hc
  | (x, k) :: r, cs, acc, cells, m, s, ρ, σ, Q, hc, a, C, hq => by
    rw [List.forIn_cons, hf]
    change (if (k == .cell) = true then (match (generalizing := false) cs with | c :: cs' => nm[c]? == some x && cellsB r cs' | [] => false) else cellsB r cs) = true at hc
    by_cases hk : (k == .cell) = true
    · rw [if_pos hk] at hc
      cases cs with
      | nil => exact no_true hc
      | cons c cs =>
        have hc := Bool.and_eq_true_iff.mp hc
        rw [if_pos hk]
        refine wpAny_bind (wpAny_bind (wpAny_alloc (wpAny_pure ?_)))
        have y : After X m s ρ { s with heap := s.heap.push { cls := .type "cell", data := .cell none }, toks := s.toks } (ρ ++ [(s.heap.objs.size, s.heap.objs.size)]) (σ ++ [.cell none]) :=
          .new a (a.fr.push _) (fun b o e zz => Heap.get?_push_of_some _ e) get_size (by
            exact ⟨rfl, _, none, Heap.get?_push_size _ rfl, rfl, trivial⟩)
        have hp : (ρ ++ [(s.heap.objs.size, s.heap.objs.size)])[σ.length]? = some (s.heap.objs.size, s.heap.objs.size) := by rw [← a.rel.len]; simp
        exact cells_ok f hf r cs _ _ Q hc.2 y.at_ ((C.mono fun n p e => y.ext.get e).cons (p := (s.heap.objs.size, s.heap.objs.size)) (eq_of_beq hc.1) hp) fun s' ρ' cells' x C' k => hq s' ρ' cells' (y.trans x) C' k
    · rw [if_neg hk] at hc ⊢
      exact wpAny_bind (wpAny_pure (cells_ok f hf r cs acc cells Q hc a C hq))

theorem binds_ok (W : EnvOK X env kd) (hL : env.locals = X.L) (f : Str × Value → PUnit → Sem (ForInStep PUnit)) (hf : ∀ n v u, f (n, v) u = (do storeName env n v; pure (.yield ⟨⟩))) :
    ∀ {as : List Arg} {ts : List Tg} {m : Str → Option Value} {s : Shared} {ρ : Rho} {σ σ' : Hp} {fr : Fr'} {vs : List V} {ws : List Value} {l : List (Nat × V)} {Q : PUnit → Shared → Prop}, TrTgs kd (as.map fun y => .Name y.arg default) ts → At X m s ρ σ → Loc X env m s.heap ρ fr →
    VRs X.G s.heap ρ vs ws → asgTs fr σ ts vs = some (l, σ') → (∀ m' s', Stored X env m s ρ fr l σ' m' s' → Q ⟨⟩ s') → wpAny M A (forIn ((as.map (·.arg)).zip ws) ⟨⟩ f) Q E s
  | [], [], m, s, ρ, σ, σ', fr, vs, ws, l, Q, h, a, c, Vv, e, hq => by
    obtain ⟨rfl, e⟩ := asgTs_nil e
    cases e
    exact wpAny_pure (hq m s ⟨.refl a, c, Nat.le_refl _⟩)
  | [], _ :: _, m, s, ρ, σ, σ', fr, vs, ws, l, Q, h, a, c, Vv, e, hq => h.no.elim
  | _ :: _, [], m, s, ρ, σ, σ', fr, vs, ws, l, Q, h, a, c, Vv, e, hq => nomatch h.inv0
  | y :: as, t :: ts, m, s, ρ, σ, σ', fr, vs, ws, l, Q, h, a, c, Vv, e, hq => by
    obtain ⟨ht, hs⟩ := h.hd
    obtain ⟨v, vs, l₁, σ₁, rfl, e₁, e⟩ := asgTs_cons e
    obtain ⟨w, ws, rfl, Vv1, Vv2⟩ := Vv.cons
    rw [List.map_cons, List.zip_cons_cons, List.forIn_cons, hf]
    have next : ∀ m₁ s₁, Stored X env m s ρ fr l₁ σ₁ m₁ s₁ → wpAny M A (pure (ForInStep.yield PUnit.unit)) (fun r s' => wpAny M A (match r with | .done b => pure b | .yield b => forIn ((as.map (·.arg)).zip ws) b f) Q E s') E s₁ := fun m₁ s₁ st =>
      wpAny_pure (binds_ok W hL f hf hs st.after.at_ st.loc (st.after.vrs a Vv2) e fun m₂ s₂ st₂ => hq m₂ s₂ (st.trans st₂))
    cases t with
    | name i =>
      obtain ⟨x, p, ex, hx, hk⟩ := ht
      cases ex
      cases e₁
      exact wpAny_bind (wpAny_bind (store_name hx hk W hL a c Vv1 fun m₁ s₁ st => next m₁ s₁ st))
    | cel i =>
      obtain ⟨x, p, ex, hx, hk⟩ := ht
      obtain ⟨n, o, hn, ho, e₁⟩ := asgT_cel e₁
      cases ex
      cases e₁
      exact wpAny_bind (wpAny_bind (store_cell hx hk W a c Vv1 hn ho fun s₁ st => next m s₁ st))
    | tup us =>
      obtain ⟨zz, zz, zz, ex, -⟩ := ht
      cases ex
end
end Mine.Internal
end

section
open PySem PySem.W PyProof.Rows PySem.Calls PySem.SeqAt
set_option autoImplicit false
set_option maxRecDepth 100000
namespace Mine.Internal

variable {g : Pg} {P : Tab} {r : Rec}

theorem wpAny_tkQ {α : Type} {M : Model} {A : Around} {t : Sem α} {Q : α → Shared → Prop} {E : Value → Shared → Prop} {s : Shared} (h : wpAny M A t (fun a s' => s.toks ≤ s'.toks → Q a s') E s) : wpAny M A t Q E s :=
  wpAny_tk (wpAny_mono h (fun zz zz x => x) fun zz zz x zz => x)

section
variable {X : Bx} {m m' m'' : Str → Option Value} {s s' s₁ : Shared} {ρ ρ' ρ₁ : Rho} {σ σ' σ₁ : Hp} {l : List Env}

theorem After.heap {h₁ h₃ : Heap} {t : Nat} (x : After X m s ρ { s₁ with heap := h₁ } ρ' σ') (y : After X m' { s₁ with heap := h₁ } ρ' { s₁ with heap := h₃ } ρ₁ σ₁) : After X m' s ρ { s₁ with heap := h₃ } ρ₁ σ₁ := x.trans y

theorem outer_frames {B h : Heap} : ∀ {es : List Env} {qs : List (Addr × Obj)}, Outer es qs → (∀ q ∈ qs, B.get? q.1 = none ∧ ∃ o, h.get? q.1 = some o ∧ ∀ vs, o.data ≠ .fields vs) → h.FunFrames B es
  | [], [], _, _ => trivial
  | e :: es, q :: qs, x, k => by
    obtain ⟨⟨hf, hk⟩, hr⟩ := x
    obtain ⟨k1, o, k2, k3⟩ := k q (.head _)
    exact ⟨by rw [hk]; decide, ⟨q.1, o, hf, k1, k2, k3⟩, outer_frames hr fun q hq => k q (.tail _ hq)⟩
  | [], _ :: _, x, _ => False.elim x
  | _ :: _, [], x, _ => False.elim x

theorem raise_out {M : Model} {A : Around} {env fenv : Env} {outer : List Env} {dep : Nat} {oL : Obj} {c : Nat} {e : Addr} {Q : Unit → Shared → Prop} {E : Value → Shared → Prop} (a : At X m s ρ σ) (hL : s.heap.get? X.L = some oL) (γ : Gr g A X fenv outer dep)
    (hf : env.frame = some s.heap.objs.size) (hk : env.scope.kind = .function) (x : Raised (X.push s.heap.objs.size oL) (env :: fenv :: outer) m' { s with heap := s.heap.push frameObj } ρ c σ' e s')
    (hQ : ∀ s'', Flown X (fenv :: outer) m s ρ c σ' e s'' → Q () s'') : wpAny M (A.deeper env) (leaving env (.ref e)) Q E s' := by
  have hfr : (A.deeper env).frames = some (env :: fenv :: outer) := Around.frames_deeper γ.fr
  rcases x with ⟨⟨h', tk', rfl⟩, B, ρ', t, fl, up⟩ | ⟨ρ', y, S, oe, vs, t, he, hc, hd, h1, h0⟩
  · refine wpAny_leaves_onW hfr hf fl fun h'' fl' up' => hQ _ ⟨⟨h'', tk', rfl⟩, B, ρ', t, fl', fun h₃ st u => ?_⟩
    have z' := At.leave a hL (up h₃ st (up'.trans u))
    exact ⟨⟨h₃, s.toks, rfl⟩, ⟨z'.at_.fr, z'.at_.rel, z'.at_.out, z'.at_.apart, z'.at_.bad⟩, z'.ext⟩
  · obtain ⟨h', tk', e0⟩ := y.eq
    have at₁ := y.at_
    have out : Outer (env :: fenv :: outer) ((s.heap.objs.size, oL) :: (X.L, oL) :: X.frs) := ⟨⟨hf, hk⟩, ⟨γ.ff, γ.fk⟩, γ.out⟩
    have fun_ : s'.heap.FunFrames (hideAll s'.heap (e :: (X.push s.heap.objs.size oL).fa)) (env :: fenv :: outer) := outer_frames out fun q hq => by
      have hm : q.1 ∈ (X.push s.heap.objs.size oL).fa := by
        rcases List.mem_cons.mp hq with rfl | hq
        · exact .head _
        · exact .tail _ (List.mem_map_of_mem (f := Prod.fst) hq)
      obtain ⟨o, e', es, n, d⟩ := at₁.rel.mutF _ hm
      exact ⟨hideAll_none _ (.tail _ hm), _, e', fun vs q => by rw [d] at q; cases q⟩
    have hen : (hideAll s'.heap (e :: (X.push s.heap.objs.size oL).fa)).get? e = none := hideAll_none _ (.head _)
    refine wpAny_leaving_firstW (a0 := .ref t) hfr fun_ hf he (fun b o e => of_hideAll _ e) hen hd h1 h0 fun h'' hl => ?_
    obtain ⟨k1, k2, k3, k4⟩ := hl
    rw [hc] at k3
    refine hQ _ ⟨⟨h'', tk', by rw [e0]⟩, _, ρ', t, ⟨k1, hen, k2.2.2, k3⟩, fun h₃ st u => ?_⟩
    have z' := At.leave a hL (y.upE S st (Heap.UpToSlots.trans k4 u))
    exact ⟨⟨h₃, s.toks, rfl⟩, ⟨z'.at_.fr, z'.at_.rel, z'.at_.out, z'.at_.apart, z'.at_.bad⟩, z'.ext⟩
end

noncomputable def FlR (X : Bx) (h : Heap) (ρ : Rho) : Fl → Flow → Prop
  | .next, w => w = .next
  | .brk, w => w = .brk
  | .cont, w => w = .cont
  | .ret v, w => ∃ x, w = .ret x ∧ VR X.G h ρ v x
noncomputable def ContS (X : Bx) (l : List Env) (env : Env) (f : Fr') (s : Shared) (ρ : Rho) (out : R (Fl × List (Nat × V))) (Q : Flow → Shared → Prop) (E : Value → Shared → Prop) : Prop := match out with
  | .ok (fl, lo) σ' => ∀ w s' ρ' m', After X m' s ρ s' ρ' σ' → FlR X s'.heap ρ' fl w → Loc X env m' s'.heap ρ' ⟨lo, f.cel, f.dep⟩ → Q w s'
  | .ex c _ σ' => ∀ e s' m', Raised X l m' s ρ c σ' e s' → E (.ref e) s'
  | .no => False

section
variable {X : Bx} {m m' m'' : Str → Option Value} {s s' s₁ : Shared} {ρ ρ' ρ₁ : Rho} {σ σ' σ₁ : Hp} {l : List Env} {env : Env} {f : Fr'} {Q Q' : Flow → Shared → Prop} {E : Value → Shared → Prop}
theorem ContS.after {out : R (Fl × List (Nat × V))} (a : After X m' s ρ s₁ ρ₁ σ₁) (C : ContS X l env f s ρ out Q E) : ContS X l env f s₁ ρ₁ out Q E := by
  cases out with
  | ok v σ' => exact fun w s' ρ' m' x y z => C w s' ρ' m' (a.trans x) y z
  | ex c mv σ' => exact fun e s' m' x => C e s' m' (x.trans' a)
  | no => exact C
theorem ContS.mapQ {out : R (Fl × List (Nat × V))} (C : ContS X l env f s ρ out Q E) (hq : ∀ b s, Q b s → Q' b s) : ContS X l env f s ρ out Q' E := by
  cases out with
  | ok v σ' => exact fun w s' ρ' m' x y z => hq _ _ (C w s' ρ' m' x y z)
  | ex c mv σ' => exact C
  | no => exact C
theorem ContS.bind {x : R (Fl × List (Nat × V))} {k : Fl × List (Nat × V) → Hp → R (Fl × List (Nat × V))} (C : ContS X l env f s ρ (x.bind k) Q E)
    (h : ∀ fl lo σ' w s' ρ' m', x = .ok (fl, lo) σ' → After X m' s ρ s' ρ' σ' → FlR X s'.heap ρ' fl w → Loc X env m' s'.heap ρ' ⟨lo, f.cel, f.dep⟩ → ContS X l env ⟨lo, f.cel, f.dep⟩ s' ρ' (k (fl, lo) σ') Q E → Q' w s') :
    ContS X l env f s ρ x Q' E := by
  cases x with
  | ok v σ' =>
    intro w s' ρ' m' a y z
    have := ContS.after (l := l) a (out := k v σ') C
    refine h v.1 v.2 σ' w s' ρ' m' rfl a y z ?_
    revert this
    generalize k v σ' = out
    intro this
    cases out <;> exact this
  | ex c mv σ' => exact C
  | no => exact C
theorem ContS.bindE {α β : Type} {x : R α} {k : α → Hp → R (Fl × List (Nat × V))} {RvA : Heap → Rho → α → β → Prop} {Q' : β → Shared → Prop} (C : ContS X l env f s ρ (x.bind k) Q E)
    (h : ∀ a σ' b s' ρ', x = .ok a σ' → After X m s ρ s' ρ' σ' → RvA s'.heap ρ' a b → ContS X l env f s' ρ' (k a σ') Q E → Q' b s') : Cont X l m s ρ x RvA Q' E := by
  cases x with
  | ok v σ' => exact fun b s' ρ' a y => h v σ' b s' ρ' rfl a y (ContS.after a C)
  | ex c mv σ' => exact fun e s' x => C e s' m (.inl x)
  | no => exact C
theorem ContS.if_ {c : Prop} [Decidable c] {x : R (Fl × List (Nat × V))} (C : ContS X l env f s ρ (if c then x else .no) Q E) : c ∧ ContS X l env f s ρ x Q E := by
  by_cases h : c
  · rw [if_pos h] at C; exact ⟨h, C⟩
  · rw [if_neg h] at C; exact False.elim C
theorem ContS.ok {fl : Fl} {lo : List (Nat × V)} {w : Flow} (a : At X m s ρ σ) (C : ContS X l env f s ρ (.ok (fl, lo) σ) Q E) (y : FlR X s.heap ρ fl w) (c : Loc X env m s.heap ρ ⟨lo, f.cel, f.dep⟩) : Q w s :=
  C w s ρ m (.refl a) y c
end

noncomputable def SX (g : Pg) (r : Rec) : Prop :=
  ∀ (t : S) (f : Fr') (σ : Hp) (kd : Kd) (st : Stmt) (A : Around) (X : Bx) (env : Env) (outer : List Env) (m : Str → Option Value) (s : Shared) (ρ : Rho) (Q : Flow → Shared → Prop) (E : Value → Shared → Prop),
    TrS kd st t → Gr g A X env outer f.dep → EnvOK X env kd → env.locals = X.L → At X m s ρ σ → Loc X env m s.heap ρ f → 0 < s.toks → PassesOwn (model g.prog g.w) A env E →
    ContS X (env :: outer) env f s ρ (r.ex t f σ) (fun w s' => s.toks ≤ s'.toks → Q w s') E → wpAny (model g.prog g.w) A (exec st env) Q E s

section
variable {X : Bx} {A : Around} {env : Env} {outer : List Env} {kd : Kd} {f : Fr'} {E : Value → Shared → Prop}
theorem TrSs.inv {kd : Kd} {ss : List Stmt} {t : S} {ts : List S} (h : TrSs kd ss (t :: ts)) : ∃ e r, ss = e :: r ∧ TrS kd e t ∧ TrSs kd r ts := h
theorem TrSs.inv0 {kd : Kd} {ss : List Stmt} (h : TrSs kd ss []) : ss = [] := h
theorem E_exs (hx : SX g r) (W : EnvOK X env kd) (hL : env.locals = X.L) (hE : PassesOwn (model g.prog g.w) A env E) : ∀ {ss : List Stmt} {ts : List S} {f : Fr'} {m : Str → Option Value} {σ : Hp} {s : Shared} {ρ : Rho} {Q : Flow → Shared → Prop}, TrSs kd ss ts → Gr g A X env outer f.dep →
    At X m s ρ σ → Loc X env m s.heap ρ f → 0 < s.toks → ContS X (env :: outer) env f s ρ (exs r ts f σ) (fun w s' => s.toks ≤ s'.toks → Q w s') E → wpAny (model g.prog g.w) A (execs ss env) Q E s := by
  intro ss ts
  induction ts generalizing ss with
  | nil =>
    intro f m σ s ρ Q h γ at_ c tk C
    obtain rfl := h.inv0
    exact wpAny_execs_nil (ContS.ok at_ C rfl c (Nat.le_refl _))
  | cons zz ts ih =>
    intro f m σ s ρ Q h γ at_ c tk C
    obtain ⟨zz, ss, rfl, h, hs⟩ := h.inv
    refine wpAny_execs_cons (hx _ _ _ _ _ _ _ _ _ _ _ _ _ _ h γ W hL at_ c tk hE (ContS.bind C fun fl lo σ₁ w s₁ ρ₁ m₁ e x₁ y₁ c₁ C₁ k₁ => ?_))
    cases fl with
    | next =>
      cases y₁
      exact ih (f := ⟨lo, f.cel, f.dep⟩) hs γ x₁.at_ c₁ (om22 ‹_› ‹_›) (ContS.mapQ C₁ fun b s' x k => x (om23 ‹_› ‹_›))
    | brk => cases y₁; exact ContS.ok x₁.at_ C₁ rfl c₁ ‹_›
    | cont => cases y₁; exact ContS.ok x₁.at_ C₁ rfl c₁ ‹_›
    | ret v => obtain ⟨z, rfl, y⟩ := y₁; exact ContS.ok x₁.at_ C₁ ⟨z, rfl, y⟩ c₁ ‹_›
end
end Mine.Internal
end

section
open PySem PySem.W PyProof.Rows PySem.Calls PySem.SeqAt
set_option autoImplicit false
set_option maxRecDepth 100000
namespace Mine.Internal

variable {g : Pg} {P : Tab} {r : Rec}

noncomputable def Ends (Q : Value → Shared → Prop) (E : Value → Shared → Prop) : Result → Shared → Prop := fun r s' => match r with | .ok (.ret v) => Q v s' | .ok _ => False | .error e => E e s'

noncomputable def SC (g : Pg) (r : Rec) : Prop :=
  ∀ (d : Nat) (gv : V) (as : List V) (σ : Hp) (A : Around) (X : Bx) (fenv : Env) (outer : List Env) (m : Str → Option Value) (s : Shared) (ρ : Rho) (wg : Value) (ws : List Value) (Q E : Value → Shared → Prop),
    Gr g A X fenv outer d → At X m s ρ σ → VR X.G s.heap ρ gv wg → VRs X.G s.heap ρ as ws → 0 < s.toks →
    Cont X (fenv :: outer) m s ρ (r.call d gv as σ) (VRc X) (fun w s' => s.toks ≤ s'.toks → Q w s') E → codeAny (model g.prog g.w) A (.call wg ⟨ws, []⟩) (Ends Q E) s

theorem VRs.append {G : Gd} {h : Heap} {ρ : Rho} : ∀ {vs us : List V} {ws zs : List Value}, VRs G h ρ vs ws → VRs G h ρ us zs → VRs G h ρ (vs ++ us) (ws ++ zs)
  | [], us, [], zs, _, y => y
  | v :: vs, us, w :: ws, zs, x, y => by
    exact ⟨x.1, VRs.append x.2 y⟩
  | [], _, _ :: _, _, x, _ => False.elim x
  | _ :: _, _, [], _, x, _ => False.elim x
theorem VRs.drop {G : Gd} {h : Heap} {ρ : Rho} : ∀ (n : Nat) {vs : List V} {ws : List Value}, VRs G h ρ vs ws → VRs G h ρ (vs.drop n) (ws.drop n)
  | 0, _, _, x => x
  | n + 1, [], [], x => by simpa using x
  | n + 1, v :: vs, w :: ws, x => by
    simpa using VRs.drop n x.2
  | _ + 1, [], _ :: _, x => False.elim x
  | _ + 1, _ :: _, [], x => False.elim x
theorem TrTgs.length {kd : Kd} : ∀ {es : List Expr} {ts : List Tg}, TrTgs kd es ts → es.length = ts.length
  | _, [], h => by obtain rfl := h.inv0; rfl
  | _, _ :: _, h => by
    obtain ⟨zz, zz, rfl, -, h⟩ := h.inv
    exact congrArg (· + 1) h.length

section
variable {A : Around} {X : Bx} {fenv : Env} {outer : List Env} {m : Str → Option Value} {s : Shared} {ρ : Rho} {σ : Hp} {Q E : Value → Shared → Prop}

theorem dflt_ok {K : Frag} {h : Heap} (XK : K.In h) {dv : Value} {ds : List V} (D : DfOk K dv ds) {s : Shared} (hs : s.heap = h) :
    ∃ wd : List Value, GVs K ds wd ∧ ∀ (M : Model) (A : Around) (E : Value → Shared → Prop) (Q : Option (Array Value) → Shared → Prop), (∀ o : Option (Array Value), (o.getD #[]).toList = wd → Q o s) → wpAny M A (seqItems? dv) Q E s := by
  rcases D with ⟨rfl, rfl⟩ | ⟨T, o, ws, n, rfl, ho, hd, hg⟩
  · exact ⟨[], rfl, fun M A E Q hq => wpAny_bind (wpAny_pure (wpAny_pure (hq _ rfl)))⟩
  · refine ⟨ws.toList, hg, fun M A E Q hq => ?_⟩
    show wpAny M A (do match (← load T).data with | .seq xs _ => pure (some xs) | _ => pure none) Q E s
    refine wpAny_bind (wpAny_load (hs ▸ XK _ _ ho) ?_)
    rw [hd]
    exact wpAny_pure (hq _ rfl)

noncomputable def retV : Fl × List (Nat × V) → Hp → R V := fun p h => match p.1 with
  | .ret v => .ok v h
  | .next => .ok .none h
  | _ => .no
theorem runFn_cont {d : Nat} {fi : FI} {cel : List (Nat × Nat)} {as : List V} {l : List Env} {Rv : Heap → Rho → V → Value → Prop} (C : Cont X l m s ρ (runFn r d fi cel as σ) Rv Q E) : d < 60 ∧ ∃ lo σ₁, (as.length ≤ fi.params.length ∧ fi.dflts.length ≤ fi.params.length ∧ fi.params.length ≤ as.length + fi.dflts.length) ∧
    asgTs ⟨[], (mkCells fi.cells cel σ).1, d + 1⟩ (mkCells fi.cells cel σ).2 fi.params (as ++ fi.dflts.drop (as.length + fi.dflts.length - fi.params.length)) = some (lo, σ₁) ∧ Cont X l m s ρ ((exs r fi.body ⟨lo, (mkCells fi.cells cel σ).1, d + 1⟩ σ₁).bind retV) Rv Q E := by
  unfold runFn at C
  obtain ⟨hd, C⟩ := C.if_
  cases e : bindP fi as with
  | none => rw [e] at C; exact False.elim C
  | some vs =>
    rw [e] at C
    obtain ⟨h, e⟩ := if_some e
    cases e
    dsimp only at C
    cases e1 : asgTs ⟨[], (mkCells fi.cells cel σ).1, d + 1⟩ (mkCells fi.cells cel σ).2 fi.params (as ++ fi.dflts.drop (as.length + fi.dflts.length - fi.params.length)) with
    | none => rw [e1] at C; exact False.elim C
    | some q => rw [e1] at C; exact ⟨hd, q.1, q.2, h, rfl, C⟩
theorem C_fn (hx : SX g r) {d : Nat} {fi : FI} {cel : List (Nat × Nat)} {as : List V} {ws : List Value} {a : Addr} {o : Obj} {fd : FuncData} (γ : Gr g A X fenv outer d) (at_ : At X m s ρ σ) (ho : s.heap.get? a = some o) (hd : o.data = .func fd) (ok : FnOk X.G.K fd fi) (hcr : s.heap.CodeRec fd.code fd.qualname)
    (hc : CelRel ρ cel fd.closure) (Vw : VRs X.G s.heap ρ as ws) (tk : 0 < s.toks)
    (C : Cont X (fenv :: outer) m s ρ (runFn r d fi cel as σ) (VRc X) (fun w s' => s.toks ≤ s'.toks → Q w s') E) : codeAny (model g.prog g.w) A (.call (.ref a) ⟨ws, []⟩) (Ends Q E) s := by
  obtain ⟨hdep, l, σ₁, ⟨hl1, hl2, hl3⟩, hasg, C⟩ := runFn_cont C
  obtain ⟨body, hbody, tr⟩ := ok.body
  have XK := γ.K.keeps at_.fr.keep
  obtain ⟨wd, hwd, hseq⟩ := dflt_ok XK ok.dflt (s := s) rfl
  have Vd := GVs.vrs (G := X.G) (ρ := ρ) XK (fun zz zz e => at_.nbad₀ (γ.K _ _ e)) _ _ hwd
  have en : fi.params.length = fd.params.args.length := by rw [← tr.params.length]; simp
  have enn : fd.params.args.length = (fd.params.args.map (·.arg)).length := by simp
  have ea := Vw.length
  have ed := Vd.length
  have Vall := Vw.append (Vd.drop (as.length + fi.dflts.length - fi.params.length))
  have hbind := binds_gen (s := s) (fd := fd) (ws := ws) (ds := wd) tr.pos tr.va tr.kwo tr.kwa rfl tr.nodup hseq (by omega) (by omega) (by omega)
  have hnz : (ws.length + wd.length - (fd.params.args.map (·.arg)).length) = as.length + fi.dflts.length - fi.params.length := by omega
  rw [hnz] at hbind
  obtain ⟨oL, hL⟩ := at_.frame
  have hdp := γ.depth
  have hun := γ.units
  refine codeAny_call_function (by show A.depth < 1000; omega) ho hd tr.co tr.gen hbody hcr (hbind _ _ _ _ ?_)
  -- the frame
  simp only [newFunctionEnv, Option.isSome_none, Bool.false_eq_true, if_false]
  refine wpAny_bind (wpAny_alloc (wpAny_bind ?_))
  have at0 := at_.enter hL
  refine cells_ok _ (fun name kind cells => by cases hkc : kind == NameKind.cell <;> simp [hkc]) fd.scope.names fi.cells cel fd.closure _ tr.cells at0 hc fun s₁ ρ₁ cells₁ x₁ hc₁ k₁ => ?_
  have V₁ := x₁.vrs at0 (VRs.mono (h' := s.heap.push frameObj) (ρ' := ρ) (fun b ws' zz t => by obtain ⟨o, e, r⟩ := t; exact ⟨o, Heap.get?_push_of_some _ e, r⟩) (fun zz zz zz zz zz t => Heap.get?_push_of_some _ t) (fun zz zz t => t) _ _ Vall)
  let env : Env := { scope := fd.scope, locals := s.heap.objs.size, globals := fd.globals, cells := cells₁, qual := fd.qualname ++ ".<locals>.", func := some a, code := fd.code, frame := some s.heap.objs.size, builtins := fd.builtins }
  have W : EnvOK (X.push s.heap.objs.size oL) env (kdOf fd.scope) := ⟨tr.kind, ok.glob, fun zz => rfl, rfl, ok.bltn⟩
  have c₁ : Loc (X.push s.heap.objs.size oL) env (fun zz => none) s₁.heap ρ₁ ⟨[], (mkCells fi.cells cel σ).1, d + 1⟩ := ⟨⟨_, .inl ⟨rfl, rfl⟩, fun x v e => no_some e⟩, hc₁⟩
  refine wpAny_bind (binds_ok (env := env) W rfl _ (fun zz zz zz => rfl) tr.params x₁.at_ c₁ V₁ hasg fun m₂ s₂ st => wpAny_pure ?_)
  have xx := x₁.trans st.after
  obtain ⟨h₂, t₂, e₂⟩ := xx.eq
  refine ⟨γ.T.nolimit.keeps xx.at_.fr.keep, codeAny_func ?_⟩
  have γ' : Gr g (A.deeper env) (X.push s.heap.objs.size oL) env (fenv :: outer) (d + 1) :=
    ⟨γ.K, γ.T, γ.scr, Around.frames_deeper γ.fr, rfl, tr.kind, ⟨⟨γ.ff, γ.fk⟩, γ.out⟩, γ.hh, by show A.depth + 1 ≤ _; omega, by show A.units + 3 ≤ _; omega, by exact Nat.succ_le_of_lt ‹_›, γ.kk⟩
  have k₂ := st.toks
  have k₁' : s.toks ≤ s₁.toks := k₁
  refine E_exs (f := ⟨l, (mkCells fi.cells cel σ).1, d + 1⟩) hx W rfl PassesOwn.leaving tr.body γ' xx.at_ st.loc (om24 ‹_› ‹_› ‹_›) ?_
  generalize hout : exs r fi.body ⟨l, (mkCells fi.cells cel σ).1, d + 1⟩ σ₁ = out at C ⊢
  cases out with
  | no => exact C.elim
  | ex c mv σ₃ =>
    intro e s₃ m₃ R₃
    exact raise_out at_ hL γ rfl tr.kind (R₃.trans' xx) fun s₄ R₄ => C e s₄ R₄
  | ok v σ₃ =>
    obtain ⟨fl, lo⟩ := v
    intro w s₃ ρ₃ m₃ x₃ y₃ c₃ k₃
    have z := At.leave at_ hL (xx.trans x₃)
    have ks : s.toks ≤ s₃.toks := by exact om25 ‹_› ‹_› ‹_›
    cases fl with
    | next => cases y₃; exact C _ s₃ ρ₃ z rfl ks
    | brk => exact C.elim
    | cont => exact C.elim
    | ret v => obtain ⟨q, rfl, y⟩ := y₃; exact C _ s₃ ρ₃ z y ks
end
end Mine.Internal
end

section
open PySem PySem.W PyProof.Rows PySem.Calls PySem.SeqAt
set_option autoImplicit false
set_option maxRecDepth 100000
namespace Mine.Internal

variable {g : Pg} {P : Tab} {r : Rec}

structure TabF (P : Tab) (K : Frag) (kOf : Nat → FuncData → Prop) : Prop where
  fn : ∀ a fi, P.fn a = some fi → ∃ o fd, K.lookup a = some o ∧ o.data = .func fd ∧ fd.closure = [] ∧ codeIn K fd.code fd.qualname = true ∧ FnOk K fd fi
  nested : ∀ k fi fd, P.nested k = some fi → kOf k fd → FnOk K fd fi
  init : ∀ a i, P.init a = some i → makesIn K a = true ∧ findIn K (.ref a) "__init__" = some (some (.ref i)) ∧ typeIn K (.ref i) = some (.type "function")

section
variable {A : Around} {X : Bx} {fenv : Env} {outer : List Env} {m : Str → Option Value} {s : Shared} {ρ : Rho} {σ : Hp} {Q E : Value → Shared → Prop}

theorem cls_frames (C : Addr) (rest : List Value) : (Code.builtin "type.__call__" ⟨.ref C :: rest, []⟩).envs = [] := rfl
theorem cls_weight (C : Addr) (rest : List Value) : (Code.builtin "type.__call__" ⟨.ref C :: rest, []⟩).weight ≤ 2 := by
  unfold Code.weight
  have h1 : (Code.builtin "type.__call__" ⟨.ref C :: rest, []⟩).frames = 0 := rfl
  have h2 : (Code.builtin "type.__call__" ⟨.ref C :: rest, []⟩).isCreation = true := rfl
  have h3 : (Code.builtin "type.__call__" ⟨.ref C :: rest, []⟩).isGuard = false := rfl
  have h4 : (Code.builtin "type.__call__" ⟨.ref C :: rest, []⟩).isCaller = false := rfl
  rw [h1, h2, h3, h4]; decide
theorem cls_units (C : Addr) (rest : List Value) : (Code.builtin "type.__call__" ⟨.ref C :: rest, []⟩).cUnits ≤ 5 := by
  have : (Code.builtin "type.__call__" ⟨.ref C :: rest, []⟩).cUnits = 1 := rfl
  omega

theorem callF_cont {d : Nat} {gv : V} {as : List V} {l : List Env} {Rv : Heap → Rho → V → Value → Prop} {Q : Value → Shared → Prop} {E : Value → Shared → Prop} {X : Bx} {m : Str → Option Value} {s : Shared} {ρ : Rho} {σ : Hp} (C : Cont X l m s ρ (callF P r d gv as σ) Rv Q E) :
    (∃ a fi, gv = .top a ∧ P.fn a = some fi ∧ Cont X l m s ρ (runFn r d fi [] as σ) Rv Q E) ∨
    (∃ a i, gv = .top a ∧ P.init a = some i ∧ d < 60 ∧ Cont X l m s ρ ((r.call (d + 1) (.top i) (.ref σ.length :: as) (σ ++ [.inst a []])).bind fun v h' => (match v with | .none => .ok (.ref σ.length) h' | _ => .no)) Rv Q E) ∨
    ∃ n k cs fi, gv = .ref n ∧ σ[n]? = some (.clos k cs) ∧ P.nested k = some fi ∧ Cont X l m s ρ (runFn r d fi cs as σ) Rv Q E := by
  cases gv with
  | top a =>
    cases e : P.fn a with
    | some fi =>
      refine .inl ⟨a, fi, rfl, e, ?_⟩
      unfold callF at C
      dsimp only at C
      rwa [e] at C
    | none =>
      unfold callF at C
      dsimp only at C
      rw [e] at C
      cases e1 : P.init a with
      | none => rw [e1] at C; exact False.elim C
      | some i => rw [e1] at C; exact .inr (.inl ⟨a, i, rfl, e1, C.if_⟩)
  | ref n =>
    unfold callF at C
    dsimp only at C
    cases e : σ[n]? with
    | none => rw [e] at C; exact False.elim C
    | some o =>
      rw [e] at C
      cases o with
      | clos k cs =>
        dsimp only at C
        cases e1 : P.nested k with
        | none => rw [e1] at C; exact False.elim C
        | some fi => rw [e1] at C; exact .inr (.inr ⟨n, k, cs, fi, rfl, e, e1, C⟩)
      | _ => exact False.elim C
  | _ => exact False.elim C
theorem C_step (hx : SX g r) (hc : SC g r) (Y : ∀ X : Bx, ∀ A fenv outer d, Gr g A X fenv outer d → TabF P X.G.K X.kOf) : SC g (stepR P r) := by
  intro d gv as σ A X fenv outer m s ρ wg ws Q E γ at_ Vg Vw tk C
  have TF := Y X A fenv outer d γ
  have XK := γ.K.keeps at_.fr.keep
  rcases callF_cont C with ⟨a, fi, rfl, hfi, C⟩ | ⟨a, i, rfl, hi, hd, C⟩ | ⟨n, k, cs, fi, rfl, hn, hfi, C⟩
  · obtain rfl : wg = .ref a := Vg
    obtain ⟨o, fd, ho, hd, hcl, hcdK, ok⟩ := TF.fn a fi hfi
    exact C_fn hx γ at_ (XK _ _ ho) hd ok (codeRec_of XK hcdK) (hcl ▸ fun x n e => no_some e) Vw tk C
  · obtain rfl : wg = .ref a := Vg
    obtain ⟨h1, h2, h3⟩ := TF.init a i hi
    obtain ⟨hh, gg, dd, t, os⟩ := s
    have XK' : X.G.K.In hh := XK
    refine make_core (makes_of XK' h1) (looks_findIn XK' h2) (fun self => bind_fn XK' self h3) (.inl rfl) ?_
    have k : ∀ b o, hh.get? b = some o → ((hh.push emptyDict).push (instObj a hh.objs.size)).get? b = some o := fun b o e => Heap.get?_push_of_some _ (Heap.get?_push_of_some _ e)
    have e1 : ((hh.push emptyDict).push (instObj a hh.objs.size)).get? (hh.objs.size + 1) = some (instObj a hh.objs.size) := by
      have := Heap.get?_push_size (hh.push emptyDict) (o := instObj a hh.objs.size) rfl
      rwa [Heap.size_push] at this
    have e2 : ((hh.push emptyDict).push (instObj a hh.objs.size)).get? hh.objs.size = some emptyDict := Heap.get?_push_of_some _ (Heap.get?_push_size _ rfl)
    have x : After X m ⟨hh, gg, dd, t, os⟩ ρ ⟨(hh.push emptyDict).push (instObj a hh.objs.size), gg, dd, t, os⟩ (ρ ++ [(hh.objs.size + 1, hh.objs.size)]) (σ ++ [.inst a []]) :=
      .new at_ ((at_.fr.push _).push _) (fun b o e zz => k b o e) (p := (hh.objs.size + 1, hh.objs.size)) get_size (by
        exact ⟨e1, [], 0, e2, trivial⟩)
    have hp : (ρ ++ [(hh.objs.size + 1, hh.objs.size)])[σ.length]? = some (hh.objs.size + 1, hh.objs.size) := by rw [← at_.rel.len]; simp
    have γ' : Gr g (A.under (Code.builtin "type.__call__" ⟨.ref a :: ws, []⟩)) X fenv outer (d + 1) := by
      have w1 := cls_weight a ws
      have w2 := cls_units a ws
      have w3 := γ.depth
      have w4 := γ.units
      refine ⟨γ.K, γ.T, γ.scr, ?_, γ.ff, γ.fk, γ.out, γ.hh, ?_, ?_, by exact Nat.succ_le_of_lt ‹_›, γ.kk⟩
      · show pushEnvs (Code.builtin "type.__call__" ⟨.ref a :: ws, []⟩).envs A.frames = _
        rw [cls_frames]; exact γ.fr
      · show A.depth + _ ≤ _
        omega
      · show A.units + _ ≤ _
        omega
    refine codeAny_mono (hc (d + 1) (.top i) (.ref σ.length :: as) _ _ X fenv outer m _ _ (.ref i) (.ref (hh.objs.size + 1) :: ws) (fun v s' => t ≤ s'.toks ∧ InitBack (hh.objs.size + 1) (Ends Q E) (.ok (.ret v)) s') E γ' x.at_ rfl
      (⟨⟨_, hp, rfl⟩, x.vrs at_ Vw⟩) tk (Cont.bind (RvA := VRc X) (Cont.after x C) fun v σ₁ w s₁ ρ₁ zz x₁ V₁ C₁ k₁ => ?_)) fun res s' hres => ?_
    · cases v <;> try exact C₁.elim
      subst V₁
      exact ⟨k₁, rfl, Cont.ok x₁.at_ C₁ (⟨_, x₁.ext.get hp, rfl⟩) k₁⟩
    · cases res with
      | error e => exact hres
      | ok fl =>
        cases fl with
        | ret v => exact hres.2
        | next => exact hres.elim
        | brk => exact hres.elim
        | cont => exact hres.elim
  · obtain ⟨p, hp, rfl⟩ := Vg
    obtain ⟨hq, o, fd, ho, hcls, hd, hk, hcr, hcel⟩ := at_.rel.at hn hp
    rw [hq]
    exact C_fn hx γ at_ ho hd (TF.nested k fi fd hfi hk) hcr hcel Vw tk C

theorem keeper_ok {d : Nat} (TF : TabF P X.G.K X.kOf) (γ : Gr g A X fenv outer d) (at_ : At X m s ρ σ) {gv : V} {wg : Value} (Vg : VR X.G s.heap ρ gv wg) (hcan : canCall P σ gv = true) {Q : Keeper → Shared → Prop} (h : ∀ k, Q k s) : wpAny (model g.prog g.w) A (keeperOf wg) Q E s := by
  have XK := γ.K.keeps at_.fr.keep
  rcases canCall_inv hcan with ⟨a, rfl, q⟩ | ⟨n, k, cs, rfl, hn⟩
  · obtain rfl : wg = .ref a := Vg
    rcases Bool.or_eq_true_iff.mp q with q | q
    · obtain ⟨fi, hfi⟩ := Option.isSome_iff_exists.mp q
      obtain ⟨o, fd, ho, hd, zz⟩ := TF.fn a fi hfi
      unfold keeperOf
      refine wpAny_bind (wpAny_load (XK _ _ ho) ?_)
      rw [hd]
      exact wpAny_pure (h _)
    · obtain ⟨i, hi⟩ := Option.isSome_iff_exists.mp q
      obtain ⟨h1, zz⟩ := TF.init a i hi
      obtain ⟨⟨oc, od, cd, sl, hC, zz⟩, zz, zz, zz, zz, call, zz⟩ := makes_of (M := model g.prog g.w) XK h1
      unfold keeperOf
      refine wpAny_bind (wpAny_load hC ?_)
      exact wpAny_bind (call.here (wpAny_pure (h _)))
  · obtain ⟨p, hp, rfl⟩ := Vg
    obtain ⟨hq, o, fd, ho, hcls, hd, hk, hcr, hcel⟩ := at_.rel.at hn hp
    rw [hq]
    unfold keeperOf
    refine wpAny_bind (wpAny_load ho ?_)
    rw [hd]
    exact wpAny_pure (h _)

theorem E_call {f : Fr'} {kd : Kd} {env : Env} (hr : SE g r) (hc : SC g r) (TF : TabF P X.G.K X.kOf) {x : Str} {q p : Pos} {es : List Expr} {ts : List T} {g' : T} (hg : TrE kd (.Name x q) g') (h : TrEs kd es ts) (hl : es.length < 20)
    (γ : Gr g A X fenv outer f.dep) (W : EnvOK X env kd) (at_ : At X m s ρ σ) (c : Loc X env m s.heap ρ f) (tk : 0 < s.toks)
    (C : Cont X (fenv :: outer) m s ρ ((r.ev g' f σ).bind fun g h => (evs r f ts h).bind fun as h => if canCall P h g then r.call f.dep g as h else .no) (VRc X) Q E) : wpAny (model g.prog g.w) A (eval (.Call (.Name x q) es [] p) env) Q E s := by
  refine wpAny_Call_ofName (hr _ _ _ _ _ _ _ _ _ _ _ _ _ _ _ hg γ W at_ c tk (C.bind (RvA := VRc X) fun gv σ₁ wg s₁ ρ₁ zz x₁ V₁ C₁ k₁ => callWith_go h hl (E_evs hr γ W p h x₁.at_ (c.after at_ x₁) (om22 ‹_› ‹_›) (C₁.bind (RvA := fun h ρ vs ws => VRs X.G h ρ vs ws) fun vs σ₂ ws s₂ ρ₂ e x₂ V₂ C₂ k₂ => ?_))))
  obtain ⟨hcan, C₂⟩ := C₂.if_
  · refine keeper_ok TF γ x₂.at_ (x₂.vr x₁.at_ V₁) hcan fun zz => wpAny_call (hc _ _ _ _ _ _ _ _ _ _ _ _ _ _ _ γ x₂.at_ (x₂.vr x₁.at_ V₁) V₂ (om24 ‹_› ‹_› ‹_›) (Cont.mapE C₂ (fun zz zz z zz => z) fun zz zz z => z))
end
end Mine.Internal
end

section
open PySem PySem.W PyProof.Rows PySem.Calls PySem.SeqAt
set_option autoImplicit false
set_option maxRecDepth 100000
namespace Mine.Internal
open PySem.Builtin PySem.Builtin.Str

theorem beqN {a b : Nat} (h : a ≠ b) : Nat.beq a b = false := Bool.eq_false_iff.mpr fun q => h (Nat.eq_of_beq_eq_true q)
theorem find1_none (c : Nat) : ∀ (l : List Nat) (k : Nat), (∀ j : Nat, l[j]? ≠ some c) → find1 c l k = -1
  | [], _, _ => rfl
  | d :: r, k, h => by
    have h0 := h 0
    simp only [List.getElem?_cons_zero, ne_eq, Option.some.injEq] at h0
    change (if Nat.beq c d then (k : Int) else find1 c r (k + 1)) = _
    rw [beqN (fun q => h0 q.symm), if_neg (by decide)]
    exact find1_none c r (k + 1) fun j => by have := h (j + 1); simpa using this
theorem find1_some (c : Nat) : ∀ (l : List Nat) (k j : Nat), l[j]? = some c → (∀ i, i < j → l[i]? ≠ some c) → find1 c l k = ((k + j : Nat) : Int)
  | [], _, _, h, _ => by simp at h
  | d :: r, k, 0, h, _ => by
    simp at h; subst h
    change (if Nat.beq d d then (k : Int) else find1 d r (k + 1)) = _
    rw [Nat.beq_refl]; rfl
  | d :: r, k, j + 1, h, hn => by
    have h0 := hn 0 (Nat.succ_pos _)
    simp only [List.getElem?_cons_zero, ne_eq, Option.some.injEq] at h0
    change (if Nat.beq c d then (k : Int) else find1 c r (k + 1)) = _
    rw [beqN (fun q => h0 q.symm), if_neg (by decide)]
    rw [find1_some c r (k + 1) j (by simpa using h) fun i hi => by have := hn (i + 1) (Nat.succ_lt_succ ‹_›); simpa using this]
    congr 1; exact om7.symm

theorem find3_one (l : List Nat) (c : Nat) {i : Int} (h0 : 0 ≤ i) : Txt.find3 ⟨l.toArray⟩ ⟨#[c]⟩ i = find1 c (l.drop i.toNat) i.toNat := by
  have hi : fromIndex (⟨l.toArray⟩ : PySem.Str).length i = i.toNat := by
    unfold fromIndex
    rw [if_neg (by omega)]
    omega
  unfold Txt.find3
  rw [hi, StrLaws.occ_eq, str_len]
  have at_iff : ∀ k, StrLaws.At ⟨l.toArray⟩ ⟨#[c]⟩ l.length k ↔ l[k]? = some c := fun k => by
    have := StrLaws.subAt_one ⟨l.toArray⟩ c k
    rw [str_len] at this
    exact this
  rcases StrLaws.occ_first ⟨l.toArray⟩ ⟨#[c]⟩ l.length 1 (Nat.le_refl 1) (List.range' i.toNat (l.length + 1 - i.toNat)) i.toNat (fun k hk => by rw [List.mem_range'] at hk; obtain ⟨j, zz, rfl⟩ := hk; exact Nat.le_add_right _ _) with ⟨e, hn⟩ | ⟨pre, a, post, e, e0, ha, hn⟩
  · rw [e]
    show (-1 : Int) = _
    rw [find1_none]
    intro j hj
    rw [List.getElem?_drop] at hj
    have hlt := (List.getElem?_eq_some_iff.mp hj).1
    exact hn (i.toNat + j) (by rw [List.mem_range']; exact ⟨j, by omega, by omega⟩) ((at_iff _).mpr hj)
  · have hmem : a ∈ List.range' i.toNat (l.length + 1 - i.toNat) := by rw [e]; simp
    rw [List.mem_range'] at hmem
    obtain ⟨j, hj, rfl⟩ := hmem
    have hpre : pre.length = j := by
      have h1 : (List.range' i.toNat (l.length + 1 - i.toNat))[pre.length]? = some (i.toNat + 1 * j) := by rw [e]; simp
      rw [List.getElem?_range' (by
        have := congrArg List.length e
        simp at this; omega)] at h1
      replace h1 := Option.some.inj h1
      omega
    have hl : (forIn (List.range' i.toNat (l.length + 1 - i.toNat)) ((#[] : Array Nat), i.toNat) (StrLaws.occBody ⟨l.toArray⟩ ⟨#[c]⟩ l.length 1)).run.fst.toList = (i.toNat + 1 * j) :: (forIn (List.range' i.toNat (l.length + 1 - i.toNat)) ((#[] : Array Nat), i.toNat) (StrLaws.occBody ⟨l.toArray⟩ ⟨#[c]⟩ l.length 1)).run.fst.toList.tail := by
      generalize (forIn (List.range' i.toNat (l.length + 1 - i.toNat)) ((#[] : Array Nat), i.toNat) (StrLaws.occBody ⟨l.toArray⟩ ⟨#[c]⟩ l.length 1)).run.fst = arr at e0 ⊢
      obtain ⟨as⟩ := arr
      cases as with
      | nil => simp at e0
      | cons x xs => simp at e0; subst e0; simp
    rw [hl]
    show ((i.toNat + 1 * j : Nat) : Int) = _
    rw [find1_some c (l.drop i.toNat) i.toNat j (by rw [List.getElem?_drop]; have := (at_iff _).mp ha; simpa using this) fun k hk hc => ?_]
    · congr 1; omega
    · rw [List.getElem?_drop] at hc
      refine hn (i.toNat + k) ?_ ((at_iff _).mpr hc)
      have h1 : (List.range' i.toNat (l.length + 1 - i.toNat))[k]? = some (i.toNat + k) := by
        rw [List.getElem?_range' (by omega)]; simp
      rw [e, List.getElem?_append_left (by omega)] at h1
      exact List.mem_of_getElem? h1

theorem endswith_one (l : List Nat) (c : Nat) : Txt.endswith ⟨l.toArray⟩ ⟨#[c]⟩ = (l.getLast? == some c) := by
  unfold Txt.endswith
  rw [str_len]
  show (decide (0 + 1 ≤ l.length) && subAt ⟨l.toArray⟩ ⟨#[c]⟩ (l.length - 1)) = _
  cases hl : l with
  | nil => rfl
  | cons a r =>
    have h1 : 0 + 1 ≤ (a :: r).length := by simp
    rw [decide_eq_true h1, Bool.true_and]
    have h2 := StrLaws.subAt_one ⟨(a :: r).toArray⟩ c ((a :: r).length - 1)
    rw [str_len] at h2
    have h3 : (a :: r).length - 1 + (⟨#[c]⟩ : PySem.Str).length ≤ (a :: r).length := by
      show (a :: r).length - 1 + 1 ≤ _
      simp
    rw [Bool.eq_iff_iff]
    constructor
    · intro h
      have := h2.mp ⟨h3, h⟩
      rw [List.getLast?_eq_getElem?]
      simpa using this
    · intro h
      rw [List.getLast?_eq_getElem?] at h
      exact (h2.mpr (by simpa using h)).2

noncomputable def rep1 (c : Nat) (b : List Nat) : List Nat → List Nat := fun l => repl1 c b l
theorem repl1_append (c : Nat) (b x y : List Nat) : repl1 c b (x ++ y) = repl1 c b x ++ repl1 c b y := by
  unfold repl1; rw [List.flatMap_append]
theorem repl1_free (c : Nat) (b : List Nat) : ∀ l : List Nat, c ∉ l → repl1 c b l = l
  | [], _ => rfl
  | k :: r, h => by
    have h1 : c ≠ k := fun e => h (e ▸ List.mem_cons_self ..)
    have ih := repl1_free c b r fun m => h (List.mem_cons_of_mem _ m)
    unfold repl1 at ih ⊢
    rw [List.flatMap_cons, beqN h1, ih]; rfl
theorem repl1_one (c : Nat) (b : List Nat) : repl1 c b [c] = b := by
  unfold repl1; simp
theorem repl_join (c : Nat) (z : PySem.Str) : ∀ parts : List PySem.Str, (∀ p ∈ parts, c ∉ p.cps.toList) → repl1 c z.cps.toList (PySem.Str.join ⟨#[c]⟩ parts).cps.toList = (PySem.Str.join z parts).cps.toList
  | [], _ => rfl
  | [p], h => repl1_free c _ _ (h p (List.mem_singleton.mpr rfl))
  | p :: q :: r, h => by
    have ih := repl_join c z (q :: r) fun a ha => h a (List.mem_cons_of_mem _ ha)
    show repl1 c z.cps.toList (p ++ ⟨#[c]⟩ ++ PySem.Str.join ⟨#[c]⟩ (q :: r)).cps.toList = (p ++ z ++ PySem.Str.join z (q :: r)).cps.toList
    simp only [PySem.Str.cps_append, Array.toList_append]
    rw [repl1_append, repl1_append, ih, repl1_free c _ _ (h p (List.mem_cons_self ..))]
    show p.cps.toList ++ repl1 c z.cps.toList [c] ++ _ = _
    rw [repl1_one]
theorem replace_list (l : List Nat) (c : Nat) (z : PySem.Str) : Txt.replace ⟨l.toArray⟩ ⟨#[c]⟩ z = ⟨(repl1 c z.cps.toList l).toArray⟩ := by
  apply PySem.Str.ext'
  apply Array.toList_inj.mp
  rw [StrLaws.replace_one, ← repl_join c z _ (StrLaws.split_free _ c), StrLaws.join_split]

theorem partition_none (l : List Nat) (c : Nat) (h : l.contains c = false) : Txt.partition ⟨l.toArray⟩ ⟨#[c]⟩ = (⟨l.toArray⟩, PySem.Str.empty, PySem.Str.empty) := by
  have f := StrLaws.found_one ⟨l.toArray⟩ c
  have hc : c ∉ l := fun q => by rw [List.contains_iff_mem.mpr q] at h; cases h
  rw [decide_eq_false (by exact hc)] at f
  unfold Txt.partition
  cases e : occurrences (⟨l.toArray⟩ : PySem.Str) { cps := #[c] } 0 (PySem.Str.length ⟨l.toArray⟩) 1 with
  | nil => rfl
  | cons a r => rw [e] at f; cases f

theorem stripL_eq (c : Nat) : ∀ l : List Nat, stripL c l = l.drop (l.takeWhile fun d => d == c).length
  | [] => rfl
  | d :: r => by
    change (if Nat.beq c d then stripL c r else d :: r) = _
    rw [List.takeWhile_cons]
    by_cases h : c = d
    · subst h
      rw [Nat.beq_refl, if_pos rfl, if_pos (by simp)]
      simpa using stripL_eq c r
    · rw [beqN h, if_neg (by decide), if_neg (by simpa using fun q => h q.symm)]
      rfl
theorem stripChars_one (l : List Nat) (c : Nat) : Txt.stripChars ⟨l.toArray⟩ ⟨#[c]⟩ = ⟨(strip1 c l).toArray⟩ := by
  apply PySem.Str.ext'
  apply Array.toList_inj.mp
  unfold Txt.stripChars
  rw [PyProof.Rows.stripBy_eq, StrLaws.strSub_toList]
  have hg : (#[c] : Array Nat).contains = fun d => d == c := by
    funext d
    by_cases h : d = c <;> simp [h]
  show (l.drop (stripLo (#[c] : Array Nat).contains true ⟨l.toArray⟩)).take (stripHi (#[c] : Array Nat).contains true ⟨l.toArray⟩ (stripLo (#[c] : Array Nat).contains true ⟨l.toArray⟩) - stripLo (#[c] : Array Nat).contains true ⟨l.toArray⟩) = (strip1 c l)
  unfold stripHi stripLo strip1
  simp only [hg, if_true, str_len]
  rw [stripL_eq c (stripL c l).reverse, stripL_eq c l]
  generalize hm : List.drop (List.takeWhile (fun d => d == c) l).length l = m
  have hml : m.length = l.length - (List.takeWhile (fun d => d == c) l).length := by rw [← hm, List.length_drop]
  rw [List.reverse_drop, List.reverse_reverse, List.length_reverse]
  congr 1
  omega
end Mine.Internal
end

section
open PySem PySem.W PyProof.Rows PySem.Calls PySem.SeqAt
set_option autoImplicit false
set_option maxRecDepth 100000
namespace Mine.Internal

variable {g : Pg} {P : Tab} {r : Rec}

noncomputable def DRel (K : Frag) : List (List Nat × V) → List DictEntry → Prop
  | [], [] => True
  | (k, v) :: r, e :: es => (∃ t, e.key = .str ⟨k.toArray⟩ t) ∧ GV K v e.val ∧ DRel K r es
  | _, _ => False
structure TabD (g : Pg) (P : Tab) (K : Frag) : Prop where
  dict : ∀ a es, P.dict a = some es → ∃ (ds : Array DictEntry) (n : Nat), K.lookup a = some ⟨.type "dict", none, .dict ds n, #[]⟩ ∧ KeysLit g.w.params ds.toList ∧ (a == sysModules) = false ∧ DRel K es ds.toList
  methFn : ∀ c f a, P.meth c f = some a → (P.fn a).isSome = true

theorem DRel.get {K : Frag} : ∀ {es : List (List Nat × V)} {ds : List DictEntry} (k : List Nat), DRel K es ds →
    match es.lookup k with | some v => ∃ e, ds.find? (fun e => Value.isStrOf ⟨k.toArray⟩ e.key) = some e ∧ GV K v e.val | none => ds.find? (fun e => Value.isStrOf ⟨k.toArray⟩ e.key) = none
  | [], [], k, _ => rfl
  | (k', v) :: r, e :: es, k, h => by
    obtain ⟨⟨t, hk⟩, hv, hr⟩ := h
    have ih := DRel.get k hr
    rw [List.lookup_cons, List.find?_cons]
    have e1 : Value.isStrOf ⟨k.toArray⟩ e.key = (k == k') := by
      rw [hk, ← isStr_of]
      show ((⟨k'.toArray⟩ : PySem.Str) == (⟨k.toArray⟩ : PySem.Str)) = (k == k')
      rw [str_beq, beq_dec]
      exact dec_comm _ _
    rw [e1]
    cases hb : k == k' with
    | true => exact ⟨e, rfl, hv⟩
    | false => exact ih
  | [], _ :: _, _, h => False.elim h
  | _ :: _, [], _, h => False.elim h

noncomputable def sid (f : Nat) : String := if f = 93 then "str.find" else if f = 96 then "str.endswith" else if f = 113 then "str.partition" else if f = 180 then "str.strip" else "str.join"
noncomputable def mval : Mth → Value
  | .str f => .builtin (sid f)
  | .dget _ => .builtin "dict.get"
  | .app _ => .builtin "list.append"
  | .fn g => .ref g

theorem nm93 : nm[93]? = some ("find" : Str) := by decide +kernel
theorem nm96 : nm[96]? = some ("endswith" : Str) := by decide +kernel
theorem nm113 : nm[113]? = some ("partition" : Str) := by decide +kernel
theorem nm180 : nm[180]? = some ("strip" : Str) := by decide +kernel
theorem nm145 : nm[145]? = some ("join" : Str) := by decide +kernel
theorem nm128 : nm[128]? = some ("get" : Str) := by decide +kernel
theorem nm81 : nm[81]? = some ("append" : Str) := by decide +kernel

section
variable {A : Around} {X : Bx} {fenv : Env} {outer : List Env} {m : Str → Option Value} {s : Shared} {ρ : Rho} {σ : Hp} {E : Value → Shared → Prop}

theorem dict_mapOf {K : Frag} {h : Heap} {a : Addr} {ds : Array DictEntry} {n : Nat} (X : K.In h) (hl : K.lookup a = some ⟨.type "dict", none, .dict ds n, #[]⟩) (hk : KeysLit g.w.params ds.toList) : h.MapOf (strKind g.prog g.w) a (fun k => findBy Value.isStrOf ds k) := mapOf_K X hl hk

theorem findM_inv {P : Tab} {σ : Hp} {f : Nat} {R : V → Mth → Prop} {vo : V} {mm : Mth} (e : findM P vo f σ = some mm) (h1 : ∀ l, (f = 93 ∨ f = 96 ∨ f = 113 ∨ f = 180 ∨ f = 145) → R (.str l) (.str f)) (h2 : ∀ a, f = 128 ∧ (P.dict a).isSome = true → R (.top a) (.dget a))
    (h3 : ∀ n vs, σ[n]? = some (.list vs) → f = 81 → R (.ref n) (.app n)) (h4 : ∀ n c fs a, σ[n]? = some (.inst c fs) → lk f fs = none → P.meth c f = some a → R (.ref n) (.fn a)) : R vo mm := by
  cases vo with
  | str l =>
    by_cases q : f = 93 ∨ f = 96 ∨ f = 113 ∨ f = 180 ∨ f = 145
    · cases (if_pos q).symm.trans e; exact h1 l q
    · exact no_some ((if_neg q).symm.trans e)
  | top a =>
    by_cases q : f = 128 ∧ (P.dict a).isSome = true
    · cases (if_pos q).symm.trans e; exact h2 a q
    · exact no_some ((if_neg q).symm.trans e)
  | ref n =>
    match hn : σ[n]?, (show (match σ[n]? with
      | some (.list _) => if f = 81 then some (Mth.app n) else none
      | some (.inst c fs) => match lk f fs, P.meth c f with
        | none, some g => some (.fn g)
        | _, _ => none
      | _ => none) = some mm from e) with
    | some (.list vs), e =>
      by_cases q : f = 81
      · cases (if_pos q).symm.trans e; exact h3 n vs hn q
      · exact no_some ((if_neg q).symm.trans e)
    | some (.inst c fs), e =>
      match hl : lk f fs, hm : P.meth c f, (show (match lk f fs, P.meth c f with
        | none, some g => some (Mth.fn g)
        | _, _ => none) = some mm from e) with
      | none, some a, e => cases e; exact h4 n c fs a hn hl hm
      | none, none, e => exact no_some e
      | some _, _, e => exact no_some e
    | some (.cell _), e => exact no_some e
    | some (.clos _ _), e => exact no_some e
    | none, e => exact no_some e
  | _ => exact no_some e
set_option maxHeartbeats 2000000 in
theorem getM_ok (TC : TabC P X.G.K) (TD : TabD g P X.G.K) (γ : ∃ d, Gr g A X fenv outer d) (at_ : At X m s ρ σ) {vo : V} {wo : Value} {f : Nat} {x : Str} {mm : Mth} {pl : Sem Bool} {Q : Value × List Value → Shared → Prop} (hx : nm[f]? = some x) (hm : findM P vo f σ = some mm) (Vo : VR X.G s.heap ρ vo wo)
    (h : Q (mval mm, [wo]) s) : wpAny (model g.prog g.w) A (getMethod wo x pl) Q E s := by
  obtain ⟨d, γ⟩ := γ
  have XK := γ.K.keeps at_.fr.keep
  refine findM_inv (R := fun vo mm => VR X.G s.heap ρ vo wo → Q (mval mm, [wo]) s → wpAny (model g.prog g.w) A (getMethod wo x pl) Q E s) hm (fun l hf Vo h => ?_) (fun a hf Vo h => ?_) (fun n vs hn hf Vo h => ?_) (fun n c fs a hn h1 h2 Vo h => ?_) Vo h
  · clear hm
    obtain ⟨t, rfl⟩ := Vo
    rcases hf with rfl | rfl | rfl | rfl | rfl
    · rw [nm93] at hx; cases hx; exact GM.find h
    · rw [nm96] at hx; cases hx; exact GM.endswith h
    · rw [nm113] at hx; cases hx; exact GM.partition h
    · rw [nm180] at hx; cases hx; exact GM.strip h
    · rw [nm145] at hx; cases hx; exact GM.join h
  · clear hm
    subst Vo
    obtain ⟨rfl, hd⟩ := hf
    rw [nm128] at hx; cases hx
    obtain ⟨es, hes⟩ := Option.isSome_iff_exists.mp hd
    obtain ⟨ds, n, hl, hk, hs, zz⟩ := TD.dict a es hes
    exact getMethod_builtin ⟨_, XK _ _ hl, rfl⟩ PySem.F.plainAttrs_dict PySem.F.slot_dict_get PySem.F.type_dict_get (fun b e => by cases e; exact ⟨_, XK _ _ hl, rfl⟩) h
  · clear hm
    subst hf
    rw [nm81] at hx; cases hx
    obtain ⟨p, hp, rfl⟩ := Vo
    have oo := at_.rel.at hn hp
    obtain ⟨hq, ws, k, ho, zz⟩ := oo
    rw [← hq] at ho
    exact getMethod_builtin ⟨_, ho, rfl⟩ PySem.F.plainAttrs_list PySem.F.slot_list_append PySem.F.type_list_append (fun b e => by cases e; exact ⟨_, ho, rfl⟩) h
  · clear hm
    obtain ⟨b, dx, es, k, rfl, hp, I, zz, zz, rr⟩ := at_.inst hn Vo
    obtain ⟨z, hz, t1, t2, t3⟩ := TC.meth _ _ _ h2
    rw [hx] at hz; cases hz
    have q := rr.get hx
    rw [h1] at q
    exact method_inst at_.fr γ.K I t1 t2 t3 q h

theorem strs_ok {vs : List V} {ls : List (List Nat)} {ws : List Value} : ∀ (_ : strsOf vs = some ls) (_ : VRs X.G s.heap ρ vs ws), ∃ l : List (PySem.Str × Tok), ws = strValues l ∧ l.map (·.1) = ls.map fun l => (⟨l.toArray⟩ : PySem.Str) := by
  induction vs generalizing ls ws with
  | nil => intro e r; cases ws with
    | nil => cases e; exact ⟨[], rfl, rfl⟩
    | cons _ _ => exact False.elim r
  | cons v vs ih =>
    intro e r
    cases ws with
    | nil => exact False.elim r
    | cons w ws =>
      obtain ⟨l, rfl, e⟩ := strsOf_cons e
      obtain ⟨ls', e', rfl⟩ := Option.map_eq_some_iff.mp e
      obtain ⟨k, rfl, hk⟩ := ih e' r.2
      obtain ⟨r1, zz⟩ := r
      obtain ⟨t, rfl⟩ := r1
      exact ⟨(⟨l.toArray⟩, t) :: k, rfl, by simp [hk]⟩
theorem join_flat : ∀ ls : List (List Nat), PySem.Str.join ⟨#[]⟩ (ls.map fun l => (⟨l.toArray⟩ : PySem.Str)) = ⟨ls.flatten.toArray⟩
  | [] => rfl
  | [l] => by simp [PySem.Str.join]
  | a :: b :: r => by
    have ih := join_flat (b :: r)
    apply PySem.Str.ext'
    apply Array.toList_inj.mp
    show ((⟨a.toArray⟩ : PySem.Str) ++ ⟨#[]⟩ ++ PySem.Str.join ⟨#[]⟩ ((b :: r).map fun l => (⟨l.toArray⟩ : PySem.Str))).cps.toList = _
    rw [ih]
    simp [PySem.Str.cps_append]
theorem join_ok : ∀ (ls : List (List Nat)) (k : Nat), (ls.map fun l => (⟨l.toArray⟩ : PySem.Str)).foldl (fun a (x : PySem.Str) => a + x.length + (⟨#[]⟩ : PySem.Str).length) k = k + ls.flatten.length
  | [], k => by simp
  | a :: r, k => by
    rw [List.map_cons, List.foldl_cons, join_ok r]
    simp only [str_len, List.flatten_cons, List.length_append]
    show k + a.length + 0 + _ = _
    omega
theorem two_ws {G : Gd} {h : Heap} {ρ : Rho} {a b : V} {ws : List Value} (x : VRs G h ρ [a, b] ws) : ∃ w w', ws = [w, w'] ∧ VR G h ρ a w ∧ VR G h ρ b w' := by
  match ws, x with
  | [w, w'], x => exact ⟨w, w', rfl, x.1, x.2.1⟩
  | [], x => exact False.elim x
  | [_], x => exact x.2.elim
  | _ :: _ :: _ :: _, x => exact x.2.2.elim
theorem one_ws {G : Gd} {h : Heap} {ρ : Rho} {a : V} {ws : List Value} (x : VRs G h ρ [a] ws) : ∃ w, ws = [w] ∧ VR G h ρ a w := by
  match ws, x with
  | [w], x => exact ⟨w, rfl, x.1⟩
  | [], x => exact False.elim x
  | _ :: _ :: _, x => exact x.2.elim

theorem chr1_inv {v : V} {c : Nat} {R : V → Prop} (e : chr1 v = some c) (h : R (.str [c])) : R v := by
  cases v with
  | str l => match l, e with
    | [x], e => cases e; exact h
    | [], e => exact no_some e
    | _ :: _ :: _, e => exact no_some e
  | _ => exact no_some e
theorem chr1_w {G : Gd} {h : Heap} {ρ : Rho} {a : V} {w : Value} {c : Nat} (e : chr1 a = some c) (x : VR G h ρ a w) : ∃ u, w = .str ⟨#[c]⟩ u := by
  refine chr1_inv (R := fun a => VR G h ρ a w → ∃ u, w = .str ⟨#[c]⟩ u) e (fun x => ?_) x
  exact x
theorem joinV_inv {σ : Hp} {v k : V} {R : V → V → Prop} (e : joinV σ v = some k) (h : ∀ n vs ls, σ[n]? = some (.list vs) → strsOf vs = some ls → ls.flatten.length ≤ LIM → R (.ref n) (.str ls.flatten)) : R v k := by
  cases v with
  | ref n =>
    match hn : σ[n]?, (show (match σ[n]? with
      | some (.list vs) => (strsOf vs).bind fun ls => if ls.flatten.length ≤ LIM then some (V.str ls.flatten) else none
      | _ => none) = some k from e) with
    | some (.list vs), e =>
      cases hs : strsOf vs with
      | none => exact no_some ((congrArg (fun o => Option.bind o _) hs).symm.trans e)
      | some ls =>
        have e := (congrArg (fun o => Option.bind o fun ls : List (List Nat) => if ls.flatten.length ≤ LIM then some (V.str ls.flatten) else none) hs).symm.trans e
        by_cases q : ls.flatten.length ≤ LIM
        · cases (if_pos q).symm.trans e; exact h _ _ _ hn hs q
        · exact no_some ((if_neg q).symm.trans e)
    | some (.inst _ _), e => exact no_some e
    | some (.cell _), e => exact no_some e
    | some (.clos _ _), e => exact no_some e
    | none, e => exact no_some e
  | _ => exact no_some e
theorem strM_ok {l : List Nat} {t : Tok} {f : Nat} {as : List V} {ws : List Value} {l' : List Env} {Q : Value → Shared → Prop} (at_ : At X m s ρ σ) (hf : f = 93 ∨ f = 96 ∨ f = 113 ∨ f = 180 ∨ f = 145) (Vw : VRs X.G s.heap ρ as ws)
    (C : Cont X l' m s ρ (lift (strMeth σ l f as) σ) (VRc X) Q E) : wpAny (model g.prog g.w) A (PySem.call (.builtin (sid f)) (.str ⟨l.toArray⟩ t :: ws)) Q E s := by
  match as, Vw, C with
  | [], _, C => exact C.elim
  | [a], Vw, C =>
    obtain ⟨w, rfl, V1⟩ := one_ws Vw
    rcases hf with rfl | rfl | rfl | rfl | rfl
    · exact C.elim
    · replace C : Cont X l' m s ρ (lift ((chr1 a).map fun c => V.bool (l.getLast? == some c)) σ) (VRc X) Q E := C
      cases e : chr1 a with
      | none => rw [e] at C; exact C.elim
      | some c =>
        rw [e] at C
        obtain ⟨u, rfl⟩ := chr1_w e V1
        refine SC.endswith ?_
        rw [endswith_one]
        exact Cont.ok at_ C rfl
    · replace C : Cont X l' m s ρ (lift ((chr1 a).bind fun c => if l.contains c then none else if l.length ≤ LIM then some (V.tup [.str l, .str [], .str []]) else none) σ) (VRc X) Q E := C
      cases e : chr1 a with
      | none => rw [e] at C; exact C.elim
      | some c =>
        rw [e] at C
        obtain ⟨u, rfl⟩ := chr1_w e V1
        replace C : Cont X l' m s ρ (lift (if l.contains c then none else if l.length ≤ LIM then some (V.tup [.str l, .str [], .str []]) else none) σ) (VRc X) Q E := C
        by_cases hc : l.contains c = true
        · rw [if_pos hc] at C; exact C.elim
        · rw [if_neg hc] at C
          refine ContIf C fun hl C => ?_
          have e := partition_none l c (by simpa using hc)
          refine KXpa.partition at_.fr (own_news _ _ _) rfl (congrArg (fun z => z.1) e) (congrArg (fun z => z.2.1) e) (congrArg (fun z => z.2.2) e) (by rw [str_len]; exact lim_line hl) fun D ta tb tc h' k F' N' hlt => ?_
          have x : After X m s ρ { s with heap := h', toks := k } ρ σ := .keep at_ F' (keep_of_own at_.fr F' N' fun zz z => .tail _ z)
          exact C _ _ _ x (by
            refine ⟨_, _, rfl, ⟨⟨_, (N' _ (.head _)).1, rfl, 0, rfl⟩, at_.nbad (none_of_new N' fun q hq => Nat.ne_of_lt (hlt q hq))⟩, ?_⟩
            exact ⟨⟨_, rfl⟩, ⟨_, rfl⟩, ⟨_, rfl⟩, trivial⟩)
    · replace C : Cont X l' m s ρ (lift ((chr1 a).bind fun c => if l.length ≤ LIM then some (V.str (strip1 c l)) else none) σ) (VRc X) Q E := C
      cases e : chr1 a with
      | none => rw [e] at C; exact C.elim
      | some c =>
        rw [e] at C
        obtain ⟨u, rfl⟩ := chr1_w e V1
        refine ContIf C fun hl C => ?_
        refine SC.stripChars (fun t' k => ?_) (by rw [str_len]; exact lim_line hl)
        rw [stripChars_one]
        exact C.okT at_ (vr_str _)
    · by_cases hl : l = []
      · subst hl
        replace C : Cont X l' m s ρ (lift (joinV σ a) σ) (VRc X) Q E := C
        cases e0 : joinV σ a with
        | none => rw [e0] at C; exact C.elim
        | some kk =>
          rw [e0] at C
          refine joinV_inv (R := fun a kk => VR X.G s.heap ρ a w → Cont X l' m s ρ (lift (some kk) σ) (VRc X) Q E → wpAny (model g.prog g.w) A (PySem.call (.builtin (sid 145)) [.str ⟨([] : List Nat).toArray⟩ t, w]) Q E s) e0 (fun n vs ls hn e hlim V1 C => ?_) V1 C
          obtain ⟨b, ws', rfl, hL, rr⟩ := at_.list hn V1
          obtain ⟨k, rfl, hk⟩ := strs_ok e rr
          refine SC.join hL hk (by
            unfold JoinOk
            have h1 := join_ok ls 0
            rw [show (List.map (fun l => (⟨l.toArray⟩ : PySem.Str)) ls).toArray.foldl (fun a (x : PySem.Str) => a + x.length + (⟨([] : List Nat).toArray⟩ : PySem.Str).length) 0 = (List.map (fun l => (⟨l.toArray⟩ : PySem.Str)) ls).foldl (fun a (x : PySem.Str) => a + x.length + (⟨#[]⟩ : PySem.Str).length) 0 from by simp, h1]
            unfold PySem.Builtin.Str.tooLong
            have := lim_line hlim
            rw [decide_eq_false (by omega)]; rfl) fun t' k' => ?_
          have e2 : Txt.join ⟨([] : List Nat).toArray⟩ (ls.map fun l => (⟨l.toArray⟩ : PySem.Str)) = ⟨ls.flatten.toArray⟩ := by
            unfold Txt.join
            rw [StrLaws.glued_eq_join]
            exact join_flat ls
          rw [e2]
          exact C.okT at_ (vr_str _)
      · replace C : Cont X l' m s ρ (lift (if 145 = 145 ∧ l = [] then joinV σ a else none) σ) (VRc X) Q E := C
        rw [if_neg (fun q => hl q.2)] at C; exact C.elim
  | [a, b], Vw, C =>
    rcases hf with rfl | rfl | rfl | rfl | rfl
    · replace C : Cont X l' m s ρ (lift ((chr1 a).bind fun c => findV l c b) σ) (VRc X) Q E := C
      obtain ⟨w, w', rfl, V1, V2⟩ := two_ws Vw
      cases e : chr1 a with
      | none => rw [e] at C; exact C.elim
      | some c =>
        rw [e] at C
        obtain ⟨u, rfl⟩ := chr1_w e V1
        cases b with
        | int i =>
          refine ContIf C fun h0 C => ?_
          obtain ⟨v, rfl⟩ := V2
          refine SC.find3 ?_
          rw [find3_one l c h0]
          exact C.okT at_ (vr_int _)
        | _ => exact C.elim
    all_goals exact C.elim
  | _ :: _ :: _ :: _, _, C => exact C.elim
end
end Mine.Internal
end

section
open PySem PySem.W PyProof.Rows PySem.Calls PySem.SeqAt
set_option autoImplicit false
set_option maxRecDepth 100000
namespace Mine.Internal

variable {g : Pg} {P : Tab} {r : Rec}

section
variable {A : Around} {X : Bx} {fenv : Env} {outer : List Env} {m : Str → Option Value} {s : Shared} {ρ : Rho} {σ : Hp} {Q E : Value → Shared → Prop}

theorem any_all {α : Type} : ∀ {l : List (Bool × α)}, l.any (·.1) = false → l.all (!·.1) = true
  | [], _ => rfl
  | a :: r, h => by
    rw [List.any_cons, Bool.or_eq_false_iff] at h
    rw [List.all_cons, h.1, any_all h.2]; rfl
theorem Call_meth {kd : Kd} {env : Env} {o : Expr} {x : Str} {q p : Pos} {es : List Expr} {ts : List T} (h0 : isCall0 o = false) (hp : (q.endLine == p.line) = true) (h : TrEs kd es ts) (hl : es.length < 20)
    (hq : wpAny (model g.prog g.w) A (eval o env) (fun ov s₁ => wpAny (model g.prog g.w) A (getMethod ov x (do return (← importBound o env).getD true)) (fun fx s₂ => wpAny (model g.prog g.w) A (callWith p fx.1 fx.2 (backTo p (starEach es env)) []) Q E s₂) E s₁) E s) :
    wpAny (model g.prog g.w) A (eval (.Call (.Attribute o x q) es [] p) env) Q E s := by
  show wpAny _ A (do
    let ov ← attributeBase o x env (eval o env)
    standAt q.atName
    methodCall o x q p env ov (es.length + 0) (backTo p (starEach es env)) []) Q E s
  rw [attr_base h0]
  have hform : methodCallForm (es.length + 0) (backTo p (starEach es env)) [] = true := by
    unfold methodCallForm
    rw [any_all (back_plain h)]
    simp; exact om16 ‹_› rfl
  refine wpAny_bind (wpAny_mono hq (fun ov s₁ h₁ => wpAny_bind (wpAny_standAt ?_)) fun zz zz z => z)
  unfold methodCall
  rw [hform]
  refine wpAny_bind (wpAny_holding (wpAny_mono (t := calleeOf true o env ov x) (Q := fun fx s₂ => wpAny (model g.prog g.w) A (callWith p fx.1 fx.2 (backTo p (starEach es env)) []) Q E s₂) h₁ (fun fx s₂ h₂ => ?_) fun zz zz z => z))
  obtain ⟨fv, first⟩ := fx
  unfold methodCallPos
  rw [if_pos (by rw [hp]; rfl)]
  exact wpAny_bind (wpAny_pure h₂)

theorem keeper_m {d : Nat} (TF : TabF P X.G.K X.kOf) (TD : TabD g P X.G.K) (γ : Gr g A X fenv outer d) {s₀ : Shared} (at_ : At X m s ρ σ) {vo : V} {f : Nat} {mm : Mth} {σ₀ : Hp} (hm : findM P vo f σ₀ = some mm) {Q : Keeper → Shared → Prop} (h : ∀ k, Q k s) :
    wpAny (model g.prog g.w) A (keeperOf (mval mm)) Q E s := by
  refine findM_inv (R := fun vo mm => wpAny (model g.prog g.w) A (keeperOf (mval mm)) Q E s) hm (fun l zz => wpAny_pure (h _)) (fun a zz => wpAny_pure (h _)) (fun n vs zz zz => wpAny_pure (h _)) (fun n c fs a zz zz h2 => ?_)
  obtain ⟨fi, hfi⟩ := Option.isSome_iff_exists.mp (TD.methFn _ _ _ h2)
  obtain ⟨o, fd, ho, hd, zz⟩ := TF.fn _ fi hfi
  show wpAny _ A (keeperOf (.ref _)) Q E s
  unfold keeperOf
  refine wpAny_bind (wpAny_load (γ.K.keeps at_.fr.keep _ _ ho) ?_)
  rw [hd]
  exact wpAny_pure (h _)

theorem run_ok (hc : SC g r) (TD : TabD g P X.G.K) {d : Nat} (γ : Gr g A X fenv outer d) (at_ : At X m s ρ σ) {vo : V} {wo : Value} {f : Nat} {mm : Mth} {σ₀ : Hp} {as : List V} {ws : List Value} (hm : findM P vo f σ₀ = some mm) (Vo : VR X.G s.heap ρ vo wo) (Vw : VRs X.G s.heap ρ as ws) (tk : 0 < s.toks)
    (C : Cont X (fenv :: outer) m s ρ (runM P r d vo mm as σ) (VRc X) Q E) : wpAny (model g.prog g.w) A (PySem.call (mval mm) ([wo] ++ ws)) Q E s := by
  have XK := γ.K.keeps at_.fr.keep
  refine findM_inv (R := fun vo mm => VR X.G s.heap ρ vo wo → Cont X (fenv :: outer) m s ρ (runM P r d vo mm as σ) (VRc X) Q E → wpAny (model g.prog g.w) A (PySem.call (mval mm) ([wo] ++ ws)) Q E s) hm (fun l hf Vo C => ?_) (fun a zz Vo C => ?_) (fun n zz zz zz Vo C => ?_) (fun n c fs a zz zz zz Vo C => ?_) Vo C
  · obtain ⟨t, rfl⟩ := Vo
    exact strM_ok at_ hf Vw C
  · obtain rfl : wo = _ := Vo
    unfold runM at C
    dsimp only at C
    cases hes : P.dict a with
    | none => rw [hes] at C; exact C.elim
    | some es =>
      rw [hes] at C
      obtain ⟨ds, n, hl, hk, hs, hr⟩ := TD.dict a es hes
      match as, Vw, C with
      | [k, dv], Vw, C =>
        cases k with
        | str k =>
          obtain ⟨w, w', rfl, V1, V2⟩ := two_ws Vw
          obtain ⟨u, rfl⟩ := V1
          refine call_meetsIn PySem.F.slot_dict_get ⟨_, XK _ _ hl, rfl⟩ PySem.F.entry_dict_get (PySem.F.args_dict_get_3 _ _ _) (meets_dict_get_default (strKind g.prog g.w) a (strKind_is g.prog g.w ⟨k.toArray⟩ u) hs w') ⟨_, dict_mapOf XK hl hk, ?_⟩
          have q := hr.get k
          have C : Cont X (fenv :: outer) m s ρ (R.ok ((es.lookup k).getD dv) σ) (VRc X) Q E := C
          unfold findBy
          rw [← Array.find?_toList]
          cases e : es.lookup k with
          | some v =>
            rw [e] at q C
            obtain ⟨en, e1, e2⟩ := q
            rw [e1]
            exact C.okT at_ (e2.vr XK fun zz zz e => at_.nbad₀ (γ.K _ _ e))
          | none =>
            rw [e] at q C
            have q : List.find? _ _ = none := q
            rw [q]
            exact C.okT at_ V2
        | _ => exact C.elim
      | [], _, C => exact False.elim C
      | [_], _, C => exact False.elim C
      | _ :: _ :: _ :: _, _, C => exact False.elim C
  · have C : Cont X (fenv :: outer) m s ρ (match σ[n]? with
      | some (.list vs) => match as with
        | [v] => if vs.length ≤ LIM then R.ok .none (σ.set n (.list (vs ++ [v]))) else .no
        | _ => .no
      | _ => .no) (VRc X) Q E := C
    match hn : σ[n]?, C with
    | some (.list vs), C =>
      match as, Vw, C with
      | [v], Vw, C =>
        have C : Cont X (fenv :: outer) m s ρ (if vs.length ≤ LIM then R.ok .none (σ.set n (.list (vs ++ [v]))) else .no) (VRc X) Q E := C
        by_cases hlim : vs.length ≤ LIM
        · rw [if_pos hlim] at C
          obtain ⟨w, rfl, V1⟩ := one_ws Vw
          obtain ⟨p, hp, rfl⟩ := Vo
          have oo := at_.rel.at hn hp
          obtain ⟨hq, ws, k, ho, rr⟩ := oo
          rw [hq]
          have hnew := at_.rel.new p (List.mem_of_getElem? hp)
          refine append_at ho (fun h' hs ho' => ?_) (by have := rr.length; rw [Array.length_toList] at this; have h3 : vs.length = ws.size := this; rw [← h3]; exact lim_line hlim)
          have F' : Fr X.h₀ X.L h' m := ⟨at_.fr.ns.sameBut hs (fun q => hnew.2 (q ▸ .head _)), fun b ob e => (hs.2 b (fun q => by rw [q, hnew.1] at e; cases e)).trans (at_.fr.keep b ob e), at_.fr.above⟩
          have x : After X m s ρ { s with heap := h', toks := s.toks } ρ (σ.set n (.list (vs ++ [v]))) := .upd at_ F' hp (fun b ob e zz hb => (hs.2 b hb).trans e) fun y => by
            refine ⟨hq, _, _, ho', ?_⟩
            rw [Array.toList_push]
            exact (y.vrs at_.rel rr).append ⟨y.vr at_.rel V1, trivial⟩
          exact C _ _ _ x rfl
        · rw [if_neg hlim] at C; exact C.elim
      | [], _, C => exact C.elim
      | _ :: _ :: _, _, C => exact C.elim
    | some (.inst _ _), C => exact C.elim
    | some (.cell _), C => exact C.elim
    | some (.clos _ _), C => exact C.elim
    | none, C => exact C.elim
  · exact wpAny_call (hc _ (.top a) (.ref n :: as) _ _ _ _ _ _ _ _ (.ref a) (wo :: ws) _ _ γ at_ rfl (⟨Vo, Vw⟩) tk (Cont.mapE C (fun zz zz z zz => z) fun zz zz z => z))

theorem E_meth {f : Fr'} {kd : Kd} {env : Env} (hr : SE g r) (hc : SC g r) (TC : TabC P X.G.K) (TF : TabF P X.G.K X.kOf) (TD : TabD g P X.G.K) {o : Expr} {x : Str} {q p : Pos} {es : List Expr} {ts : List T} {i : Nat} {o' : T} (h0 : isCall0 o = false) (hp : (q.endLine == p.line) = true)
    (hx : nm[i]? = some x) (ho : TrE kd o o') (h : TrEs kd es ts) (hl : es.length < 20) (γ : Gr g A X fenv outer f.dep) (W : EnvOK X env kd) (at_ : At X m s ρ σ) (c : Loc X env m s.heap ρ f) (tk : 0 < s.toks)
    (C : Cont X (fenv :: outer) m s ρ ((r.ev o' f σ).bind fun o h => match findM P o i h with | some m => (evs r f ts h).bind fun as h => runM P r f.dep o m as h | none => .no) (VRc X) Q E) :
    wpAny (model g.prog g.w) A (eval (.Call (.Attribute o x q) es [] p) env) Q E s := by
  refine Call_meth h0 hp h hl (hr _ _ _ _ _ _ _ _ _ _ _ _ _ _ _ ho γ W at_ c tk (C.bind (RvA := VRc X) fun vo σ₁ wo s₁ ρ₁ zz x₁ V₁ C₁ k₁ => ?_))
  cases hm : findM P vo i σ₁ with
  | none => rw [hm] at C₁; exact C₁.elim
  | some mm =>
    rw [hm] at C₁
    dsimp only at C₁
    refine getM_ok TC TD ⟨_, γ⟩ x₁.at_ hx hm V₁ (callWith_go h hl (E_evs hr γ W p h x₁.at_ (c.after at_ x₁) (om22 ‹_› ‹_›) (Cont.bind (RvA := fun h ρ vs ws => VRs X.G h ρ vs ws) C₁ fun vs σ₂ ws s₂ ρ₂ e x₂ V₂ C₂ k₂ => ?_)))
    exact keeper_m TF TD γ (s₀ := s₂) x₂.at_ hm fun zz => run_ok hc TD γ x₂.at_ hm (x₂.vr x₁.at_ V₁) V₂ (om24 ‹_› ‹_› ‹_›) C₂

theorem E_repl {f : Fr'} {kd : Kd} {env : Env} (hr : SE g r) {o : Expr} {q p : Pos} {x y : Str} {k₁ k₂ : Nat} {p₁ p₂ : Pos} {c₀ : Nat} {o' : T} (h0 : isCall0 o = false) (hp : (q.endLine == p.line) = true) (ho : TrE kd o o') (hx : x.cps.toList = [c₀])
    (γ : Gr g A X fenv outer f.dep) (W : EnvOK X env kd) (at_ : At X m s ρ σ) (c : Loc X env m s.heap ρ f) (tk : 0 < s.toks)
    (C : Cont X (fenv :: outer) m s ρ ((r.ev o' f σ).bind fun o h => match o with
    | .str l => if l.length ≤ 4096 ∧ y.cps.toList.length ≤ 16 ∧ [c₀] ≠ y.cps.toList then R.ok (V.str (repl1 c₀ y.cps.toList l)) h else .no
    | _ => .no) (VRc X) Q E) :
    wpAny (model g.prog g.w) A (eval (.Call (.Attribute o ("replace" : Str) q) [.Constant (.str x) k₁ p₁, .Constant (.str y) k₂ p₂] [] p) env) Q E s := by
  have hT : TrEs kd [.Constant (.str x) k₁ p₁, .Constant (.str y) k₂ p₂] [.str x.cps.toList, .str y.cps.toList] := .cons .str (.cons .str .nil)
  refine Call_meth h0 hp hT (show 2 < 20 by decide) (hr _ _ _ _ _ _ _ _ _ _ _ _ _ _ _ ho γ W at_ c tk (C.bind (RvA := VRc X) fun vo σ₁ wo s₁ ρ₁ e₁ x₁ V₁ C₁ kk => ?_))
  clear e₁
  obtain ⟨l, rfl⟩ : ∃ l, vo = .str l := by
    cases vo <;> first | exact ⟨_, rfl⟩ | exact False.elim C₁
  obtain ⟨hb, D⟩ := Cont.if_ C₁
  clear C₁
  obtain ⟨t, rfl⟩ := V₁
  refine GM.replace (callWith_go hT (show 2 < 20 by decide) (wpAny_items_cons (Constant_str (wpAny_items_cons (Constant_str (wpAny_items_nil ?_)) rfl)) rfl))
  refine wpAny_pure ?_
  have hxe : x = ⟨#[c₀]⟩ := by
    apply PySem.Str.ext'
    apply Array.toList_inj.mp
    rw [hx]
  subst hxe
  refine SC.replace (by show s₁.toks ≠ 0; omega) (by show s₁.toks + 1 ≠ 0; omega) (by show s₁.toks ≠ s₁.toks + 1; omega) ?_ ?_ fun t' k => ?_
  · cases e : ((⟨#[c₀]⟩ : PySem.Str) == y) with
    | false => rfl
    | true => exact absurd (by rw [← eq_of_beq e]) hb.2.2
  · rw [str_len]
    have h1 : y.length ≤ 16 := by have := hb.2.1; rwa [Array.length_toList] at this
    have h2 : (l.length + 1) * y.length ≤ 4097 * 16 := Nat.mul_le_mul (by omega) h1
    omega
  · rw [replace_list]
    exact D.okT x₁.at_ (⟨_, rfl⟩)
end
end Mine.Internal
end

section
open PySem PySem.W PyProof.Rows PySem.Calls PySem.SeqAt
set_option autoImplicit false
set_option maxRecDepth 100000
namespace Mine.Internal

variable {g : Pg} {P : Tab} {r : Rec}

section
variable {X : Bx} {m m' : Str → Option Value} {s₀ s s' : Shared} {ρ₀ ρ ρ' : Rho} {σ₀ σ σ' : Hp}

theorem vrs_but {G : Gd} {h h' : Heap} {ρ : Rho} {b : Addr} {ob : Obj} (hb : h.get? b = some ob) (hn : NotVal ob) (k : ∀ c o, c ≠ b → h.get? c = some o → h'.get? c = some o) {v : List V} {w : List Value} (y : VRs G h ρ v w) : VRs G h' ρ v w :=
  VRs.mono (fun c ws zz t => by
    obtain ⟨o, e, hc, n, hd⟩ := t
    exact ⟨o, k c o (fun q => by rw [q, hb] at e; cases e; exact hn.1 _ _ hc hd) e, hc, n, hd⟩)
    (fun c n t u v e => k c _ (fun q => by rw [q] at e; rw [show h.get? b = some _ from e] at hb; cases hb; exact hn.2.1 rfl _ rfl) e) (fun zz zz e => e) v w y
theorem vr_but {G : Gd} {h h' : Heap} {ρ : Rho} {b : Addr} {ob : Obj} (hb : h.get? b = some ob) (hn : NotVal ob) (k : ∀ c o, c ≠ b → h.get? c = some o → h'.get? c = some o) {v : V} {w : Value} (y : VR G h ρ v w) : VR G h' ρ v w := by
  exact (vrs_but (v := [v]) (w := [w]) hb hn k ⟨y, trivial⟩).1

theorem After.side {b : Addr} {h' : Heap} {tk : Nat} (x : After X m s₀ ρ₀ s ρ σ) (S : Side X s₀ ρ s.heap b) (k : ∀ c o, c ≠ b → s.heap.get? c = some o → h'.get? c = some o) :
    After X m s₀ ρ₀ { s with heap := h', toks := tk } ρ σ := by
  have a := x.at_
  obtain ⟨ob, hb, hn⟩ := S.obj
  have V : ∀ v w, VR X.G s.heap ρ v w → VR X.G h' ρ v w := fun v w => vr_but hb hn k
  have nf : ∀ c ∈ X.fa, c ≠ b := fun c hc q => S.fa (q ▸ hc)
  obtain ⟨hh, tt, e0⟩ := x.eq
  have k0 : ∀ c o, X.h₀.get? c = some o → h'.get? c = some o := fun c o e => k c o (fun q => by rw [q, S.base] at e; cases e) (a.fr.keep c o e)
  have ns : h'.Ns X.L m := by
    obtain ⟨o, es, n, e, d, rr⟩ := a.fr.ns
    exact ⟨o, es, n, k _ _ (nf _ (.head _)) e, d, rr⟩
  refine ⟨⟨h', tk, by rw [e0]⟩, ⟨⟨ns, k0, a.fr.above⟩, ⟨a.rel.len, fun n o e => ?_, a.rel.new, a.rel.nod, fun c hc => ?_⟩, fun q hq => ?_, a.apart, fun c hc => ⟨(a.bad c hc).1, let ⟨o, e⟩ := (a.bad c hc).2; ⟨o, k c o (fun q => S.bad (q ▸ hc)) e⟩⟩⟩, ⟨x.ext.pre, fun c o e h1 h2 => k c o (fun q => by rw [q, S.new] at e; cases e) (x.ext.keep c o e h1 h2)⟩⟩
  · obtain ⟨p, hp, ho⟩ := a.rel.obj n o e
    have hpb : p.2 ≠ b := S.rho p (List.mem_of_getElem? hp)
    refine ⟨p, hp, ?_⟩
    cases o with
    | list vs => obtain ⟨q, ws, n, c1, c2⟩ := ho; exact ⟨q, ws, n, k _ _ hpb c1, vrs_but hb hn k c2⟩
    | inst C fs =>
      obtain ⟨q, es, n, c1, c2⟩ := ho
      exact ⟨k _ _ (fun z => by rw [z, hb] at q; cases q; exact hn.2.2.1 rfl) q, es, n, k _ _ hpb c1, FRel.mono V _ _ c2⟩
    | cell v =>
      obtain ⟨q, o, w, c1, c2, c3⟩ := ho
      refine ⟨q, o, w, k _ _ hpb c1, c2, ?_⟩
      cases v <;> cases w <;> first | exact c3 | exact V _ _ c3
    | clos kk cs => obtain ⟨q, o, fd, c1, c2, c3, c4, ⟨cc, oc, vs, t, d1, d2, d3, d4⟩, c5⟩ := ho; exact ⟨q, o, fd, k _ _ hpb c1, c2, c3, c4, ⟨cc, oc, vs, t, d1, k _ _ (fun z => by rw [z, hb] at d2; cases d2; exact hn.2.2.2 _ d3 _ _ d4) d2, d3, d4⟩, c5⟩
  · obtain ⟨o, e, d⟩ := a.rel.mutF c hc
    exact ⟨o, k _ _ (nf c hc) e, d⟩
  · obtain ⟨sl, e⟩ := a.out q hq
    exact ⟨sl, k _ _ (nf _ (.tail _ (List.mem_map_of_mem hq))) e⟩

theorem Side.but {b c : Addr} {h h' : Heap} (S : Side X s₀ ρ h c) (hc : c ≠ b) (k : ∀ c o, c ≠ b → h.get? c = some o → h'.get? c = some o) : Side X s₀ ρ h' c := by
  obtain ⟨o, ho, hn⟩ := S.obj
  exact ⟨S.base, S.new, S.fa, S.rho, ⟨o, k _ _ hc ho, hn⟩, S.bad⟩
theorem Side.set {b : Addr} {h h' : Heap} {o : Obj} (S : Side X s₀ ρ h b) (ho : h'.get? b = some o) (hn : NotVal o) : Side X s₀ ρ h' b := ⟨S.base, S.new, S.fa, S.rho, ⟨o, ho, hn⟩, S.bad⟩
theorem Side.push (a : At X m s ρ σ) (x : After X m' s₀ ρ₀ s ρ σ) {o : Obj} (hn : NotVal o) (hf : o.isFreed = false) : Side X s₀ ρ (s.heap.push o) s.heap.objs.size := by
  refine ⟨?_, ?_, fun q => ?_, fun p hp q => ?_, ⟨o, Heap.get?_push_size _ hf, hn⟩, a.nbad get_size⟩
  · cases q : X.h₀.get? s.heap.objs.size with
    | none => rfl
    | some o => exact absurd (Heap.lt_size (a.fr.keep _ _ q)) (Nat.lt_irrefl _)
  · cases q : s₀.heap.get? s.heap.objs.size with
    | none => rfl
    | some o =>
      exfalso
      by_cases h1 : s.heap.objs.size ∈ X.fa
      · obtain ⟨o, e, zz⟩ := a.rel.mutF _ h1
        exact absurd (Heap.lt_size e) (Nat.lt_irrefl _)
      · by_cases h2 : ∀ p ∈ ρ₀, p.2 ≠ s.heap.objs.size
        · exact absurd (Heap.lt_size (x.ext.keep _ _ q h2 h1)) (Nat.lt_irrefl _)
        · obtain ⟨p, h3⟩ := Classical.not_forall.mp h2
          obtain ⟨h3, h4⟩ := Classical.not_imp.mp h3
          obtain ⟨o', e', zz⟩ := a.rel.mut (x.ext.mem h3)
          rw [Classical.not_not.mp h4] at e'
          exact absurd (Heap.lt_size e') (Nat.lt_irrefl _)
  · obtain ⟨o, e, zz⟩ := a.rel.mutF _ q
    exact absurd (Heap.lt_size e) (Nat.lt_irrefl _)
  · obtain ⟨o, e, zz⟩ := a.rel.mut hp
    exact absurd (Heap.lt_size e) (by rw [q]; exact Nat.lt_irrefl _)
end

noncomputable def ItR (h : Heap) (ρ : Rho) (I : Addr) (i : Nat) : V → Prop
  | .ref n => ∃ p, ρ[n]? = some p ∧ h.IsListIter I p.1 i
  | .rng n => IsRangeIter h I i (n - i) 1
  | _ => False
theorem ItR.move {h h' : Heap} {ρ ρ' : Rho} {I : Addr} {i : Nat} {v : V} (x : ItR h ρ I i v) (k : ∀ o, h.get? I = some o → h'.get? I = some o) (hρ : ∀ (n : Nat) p, ρ[n]? = some p → ρ'[n]? = some p) : ItR h' ρ' I i v := by
  cases v with
  | rng => exact k _ x
  | ref =>
    obtain ⟨p, hp, o, ho, r⟩ := x
    exact ⟨p, hρ _ _ hp, o, k _ ho, r⟩
  | _ => exact False.elim x

section
variable {A : Around} {X : Bx} {m : Str → Option Value} {s₀ s : Shared} {ρ₀ ρ : Rho} {σ : Hp} {E : Value → Shared → Prop}

theorem iter_start (a : At X m s ρ σ) {v : V} {w : Value} (V : VR X.G s.heap ρ v w) (hs : isSrc σ v = true) {Q : Value → Shared → Prop}
    (hq : ∀ I h', After X m s ρ { s with heap := h' } ρ σ → s.heap.get? I = none → Side X s ρ h' I → ItR h' ρ I 0 v → Q (.ref I) { s with heap := h' }) : wpAny (model g.prog g.w) A (pyIter w) Q E s := by
  have push : ∀ o : Obj, After X m s ρ { s with heap := s.heap.push o, toks := s.toks } ρ σ := fun o => .keep a (a.fr.push _) fun b o e zz => Heap.get?_push_of_some _ e
  rcases isSrc_inv hs with ⟨n, vs, rfl, hn⟩ | ⟨n, rfl, h0, h1⟩
  · obtain ⟨b, ws, rfl, hl, rr⟩ := a.list hn V
    obtain ⟨p, hp, e⟩ := V
    cases e
    exact wpAny_pyIter_list hl (hq _ _ (push _) get_size (Side.push a (.refl a) (nv_fields (by decide) (by decide) (by intro _ _ h; cases h)) rfl) ⟨p, hp, _, Heap.get?_push_size _ rfl, rfl, rfl⟩)
  · obtain ⟨b, t, u, v', rfl, hr⟩ := V
    have hL : (LIM : Int) = 1048576 := rfl
    refine wpAny_pyIter_range hr (small_one (by omega) (by omega) (by omega) (by omega)) (hq _ _ (push _) get_size (Side.push a (.refl a) (nv_fields (by decide) (by decide) (by intro _ _ h; cases h)) rfl) ?_)
    have e : Builtin.Range.rangeSize 0 n 1 = n - ((0 : Nat) : Int) := by
      rw [rangeSize_one]
      by_cases q : (0 : Int) < n
      · rw [if_pos q]; rfl
      · rw [if_neg q]; omega
    rw [e]
    exact Heap.get?_push_size _ rfl

theorem iter_item (a : At X m s ρ σ) {src v : V} {I : Addr} {i : Nat} (x : After X m s₀ ρ₀ s ρ σ) (S : Side X s₀ ρ s.heap I) (hI : ItR s.heap ρ I i src) (hs : srcAt σ i src = some (some v)) {Q : Option Value → Shared → Prop}
    (hq : ∀ w h' tk, (∀ c o, c ≠ I → s.heap.get? c = some o → h'.get? c = some o) → s.toks ≤ tk → After X m s₀ ρ₀ { s with heap := h', toks := tk } ρ σ → Side X s₀ ρ h' I → ItR h' ρ I (i + 1) src → VR X.G h' ρ v w → Q (some w) { s with heap := h', toks := tk }) :
    wpAny (model g.prog g.w) A (pyNext (.ref I)) Q E s := by
  obtain ⟨ob, hb, hn⟩ := S.obj
  rcases srcAt_inv hs with ⟨n, vs, rfl, hn', -, hv⟩ | ⟨n, rfl, hv⟩
  · obtain ⟨p, hp, hit⟩ := hI
    obtain ⟨hq1, ws, hl, rr⟩ := isList_of (a.rel.at hn' hp)
    obtain ⟨w, hw, Vw⟩ := rr.get i v hv.symm
    rw [← hq1] at hl
    refine wpAny_pyNext_list_item hit hl (by simpa using hw) fun h' hit' hsb => ?_
    have k : ∀ c o, c ≠ I → s.heap.get? c = some o → h'.get? c = some o := fun c o hc e => (hsb.2 c hc).trans e
    have hit2 := hit'
    obtain ⟨o', ho', hc', hd'⟩ := hit'
    exact hq w h' s.toks k (Nat.le_refl _) (x.side S k) (S.set ho' ⟨fun zz zz q => (by rw [hc'] at q; injection q with q; exact absurd q (by decide)), fun q => (by rw [hc'] at q; injection q with q; exact absurd q (by decide)), by rw [hd']; exact ⟨fun q => (by cases q), fun zz e q t h => (by cases e; cases h)⟩⟩) ⟨p, hp, hit2⟩ (vr_but hb hn k Vw)
  · obtain ⟨hi, hv⟩ := if_some hv.symm
    cases hv
    refine wpAny_pyNext_range_item hI (by omega) fun h' hit' hsb => ?_
    have k : ∀ c o, c ≠ I → s.heap.get? c = some o → h'.get? c = some o := fun c o hc e => (hsb.2 c hc).trans e
    refine hq _ h' _ k (Nat.le_succ _) (x.side S k) (S.set hit' (nv_fields (by decide) (by decide) (by intro _ _ h; cases h))) ?_ (⟨_, rfl⟩)
    change IsRangeIter _ I ((i : Int) + 1) (n - ((i + 1 : Nat) : Int)) 1
    have e2 : n - ((i + 1 : Nat) : Int) = n - (i : Int) - 1 := by omega
    rw [e2]; exact hit'

theorem iter_done (a : At X m s ρ σ) (hh : A.handled = none) {src : V} {I : Addr} {i : Nat} (x : After X m s₀ ρ₀ s ρ σ) (S : Side X s₀ ρ s.heap I) (hI : ItR s.heap ρ I i src) (hs : srcAt σ i src = some none) {Q : Option Value → Shared → Prop}
    (hq : ∀ h', (∀ c o, c ≠ I → s.heap.get? c = some o → h'.get? c = some o) → After X m s₀ ρ₀ { s with heap := h' } ρ σ → Q none { s with heap := h' }) :
    wpAny (model g.prog g.w) A (pyNext (.ref I)) Q E s := by
  rcases srcAt_inv hs with ⟨n, vs, rfl, hn', -, hv⟩ | ⟨n, rfl, hv⟩
  · obtain ⟨p, hp, hit⟩ := hI
    obtain ⟨hq1, ws, hl, rr⟩ := isList_of (a.rel.at hn' hp)
    rw [← hq1] at hl
    have hws : ws.toArray[i]? = none := by
      rw [List.getElem?_toArray]
      exact List.getElem?_eq_none (rr.length ▸ List.getElem?_eq_none_iff.mp hv.symm)
    exact wpAny_pyNext_list_end hh hit hl hws fun h' he => hq h' (fun c o hc e => he c o hc e) (x.side (tk := s.toks) S fun c o hc e => he c o hc e)
  · by_cases hi : (i : Int) < n
    · rw [if_pos hi] at hv; cases hv
    · exact wpAny_pyNext_range_end hh hI (by omega) fun h' he => hq h' (fun c o hc e => he c o hc e) (x.side (tk := s.toks) S fun c o hc e => he c o hc e)

theorem iter_self {src : V} {I : Addr} {i : Nat} (hI : ItR s.heap ρ I i src) {Q : Value → Shared → Prop} (hq : Q (.ref I) s) : wpAny (model g.prog g.w) A (pyIter (.ref I)) Q E s := by
  cases src with
  | rng => exact wpAny_pyIter_rangeiter hI hq
  | ref =>
    obtain ⟨p, hp, hit⟩ := hI
    exact wpAny_pyIter_listiter hit hq
  | _ => exact False.elim hI
theorem iter_own {src : V} {I : Addr} {i : Nat} {target : Expr} {v : Value} (hI : ItR s.heap ρ I i src) {Q : Unit → Shared → Prop} (hq : Q () s) : wpAny (model g.prog g.w) A (letOwnedTupleGo target (.ref I) v) Q E s := by
  have key : ∃ o, s.heap.get? I = some o ∧ (o.cls = .type "list_iterator" ∨ o.cls = .type "range_iterator") := by
    cases src with
    | rng => exact ⟨_, hI, .inr rfl⟩
    | ref =>
      obtain ⟨p, hp, o, ho, hc, zz⟩ := hI
      exact ⟨o, ho, .inl hc⟩
    | _ => exact False.elim hI
  obtain ⟨o, ho, hc⟩ := key
  have body : wpAny (model g.prog g.w) A (do
      let (.ref r, .ref a) := (Value.ref I, v) | return
      let o ← load r
      match o.cls, o.data with
      | .type n, .fields vs =>
        if ["enumerate", "zip", "dict_itemiterator", "dict_reverseitemiterator", "odict_iterator", "itertools.zip_longest", "itertools.pairwise"].contains n && vs[0]? == some (rawInt a) then
          rule "for.unpacks-the-owned-tuple"
          updateField r 0 .none
      | _, _ => pure ()) Q E s := by
    cases v <;> try exact wpAny_pure hq
    refine wpAny_bind (wpAny_load ho ?_)
    rcases hc with hc | hc <;> rw [hc] <;> cases o.data <;> exact wpAny_pure hq
  have K : wpAny (model g.prog g.w) A (pure ()) Q E s := wpAny_pure hq
  exact @Expr.casesOn (fun target => wpAny (model g.prog g.w) A (letOwnedTupleGo target (.ref I) v) Q E s) target (fun zz zz zz => K) (fun zz zz zz => K) (fun zz zz zz zz => K) (fun zz zz zz => K) (fun zz zz zz zz => K) (fun zz zz zz zz => K) (fun zz zz zz => K) (fun zz zz zz => K) (fun zz zz zz zz => K) (fun zz zz zz zz => K) (fun zz zz zz zz zz => K) (fun zz zz zz zz => K) (fun zz zz => K) (fun zz zz => K) (fun zz zz => K) (fun zz zz zz zz => K) (fun zz zz zz zz => K) (fun zz zz zz zz => K) (fun zz zz => K) (fun zz zz zz => K) (fun zz zz zz => K) (fun zz zz zz => K) (fun zz zz => K) (fun zz zz => K) (fun zz zz => body) (fun zz zz zz => body) (fun zz zz zz zz => K)
end
end Mine.Internal
end

section
open PySem PySem.W PyProof.Rows PySem.Calls PySem.SeqAt
set_option autoImplicit false
set_option maxRecDepth 100000
namespace Mine.Internal

variable {g : Pg} {P : Tab} {r : Rec}

section
variable {X : Bx} {m m' : Str → Option Value} {s₀ s s' s'' : Shared} {ρ₀ ρ ρ' ρ'' : Rho} {σ₀ σ σ' : Hp} {C : Addr}
structure MvC (X : Bx) (s₀ : Shared) (C : Addr) (s : Shared) (ρ : Rho) (s' : Shared) (ρ' : Rho) : Prop where
  vr : ∀ v w, VR X.G s.heap ρ v w → VR X.G s'.heap ρ' v w
  vrs : ∀ v w, VRs X.G s.heap ρ v w → VRs X.G s'.heap ρ' v w
  idx : ∀ (n : Nat) p, ρ[n]? = some p → ρ'[n]? = some p
  side : ∀ b, b ≠ C → Side X s₀ ρ s.heap b → Side X s₀ ρ' s'.heap b ∧ ∀ o, s.heap.get? b = some o → s'.heap.get? b = some o
  toks : s.toks ≤ s'.toks
theorem MvC.refl : MvC X s₀ C s ρ s ρ := ⟨fun zz zz x => x, fun zz zz x => x, fun zz zz x => x, fun zz zz S => ⟨S, fun zz x => x⟩, Nat.le_refl _⟩
theorem MvC.trans (x : MvC X s₀ C s ρ s' ρ') (y : MvC X s₀ C s' ρ' s'' ρ'') : MvC X s₀ C s ρ s'' ρ'' :=
  ⟨fun v w z => y.vr v w (x.vr v w z), fun v w z => y.vrs v w (x.vrs v w z), fun n p z => y.idx n p (x.idx n p z), fun b hb S => by
    obtain ⟨S1, k1⟩ := x.side b hb S
    obtain ⟨S2, k2⟩ := y.side b hb S1
    exact ⟨S2, fun o e => k2 o (k1 o e)⟩, Nat.le_trans x.toks y.toks⟩
theorem MvC.after (a : At X m s ρ σ) (x : After X m' s ρ s' ρ' σ') (k : s.toks ≤ s'.toks) : MvC X s₀ C s ρ s' ρ' :=
  ⟨fun zz zz y => x.vr a y, fun zz zz y => x.vrs a y, fun zz zz e => x.ext.get e, fun b zz S => S.after x, k⟩
theorem MvC.aside {h' : Heap} {tk : Nat} (S : Side X s₀ ρ s.heap C) (k : ∀ c o, c ≠ C → s.heap.get? c = some o → h'.get? c = some o) (hk : s.toks ≤ tk) : MvC X s₀ C s ρ { s with heap := h', toks := tk } ρ := by
  obtain ⟨ob, hb, hn⟩ := S.obj
  exact ⟨fun zz zz => vr_but hb hn k, fun zz zz => vrs_but hb hn k, fun zz zz e => e, fun b hbC Sb => ⟨Sb.but hbC k, fun o e => k b o hbC e⟩, hk⟩
theorem SameBut_k {h h' : Heap} {b : Addr} (hs : Heap.SameBut b h h') : ∀ c o, c ≠ b → h.get? c = some o → h'.get? c = some o := fun c o hc e => (hs.2 c hc).trans e
end

section
variable {M : Model} {A : Around} {X : Bx} {env : Env} {m : Str → Option Value} {s₀ : Shared} {ρ₀ : Rho} {σ₀ : Hp} {C : Addr} {kd : Kd} {E : Value → Shared → Prop}

noncomputable def LocC (X : Bx) (env : Env) (C : Addr) (h : Heap) (ρ : Rho) (f : Fr') : Prop :=
  (∃ mC, h.Ns C mC ∧ ∀ x v, lk x f.loc = some v → ∃ s w, nm[x]? = some s ∧ mC s = some w ∧ VR X.G h ρ v w) ∧ CelRel ρ f.cel env.cells
theorem LocC.loc {h : Heap} {ρ : Rho} {f : Fr'} (c : LocC X env C h ρ f) (hC : env.locals = C) (S : Side X s₀ ρ h C) : Loc X env m h ρ f := by
  obtain ⟨⟨mC, hn, hv⟩, hc⟩ := c
  subst hC
  exact ⟨⟨mC, .inr ⟨S.fa, S.rho, hn⟩, hv⟩, hc⟩
theorem ns_of_get {h h' : Heap} {C : Addr} {mC : Str → Option Value} (hn : h.Ns C mC) (k : ∀ o, h.get? C = some o → h'.get? C = some o) : h'.Ns C mC := by
  obtain ⟨o, es, n, e, r⟩ := hn; exact ⟨o, es, n, k _ e, r⟩
theorem LocC.move {s s' : Shared} {ρ ρ' : Rho} {f : Fr'} (c : LocC X env C s.heap ρ f) (k : ∀ o, s.heap.get? C = some o → s'.heap.get? C = some o) (hv : ∀ v w, VR X.G s.heap ρ v w → VR X.G s'.heap ρ' v w) (hi : ∀ (n : Nat) p, ρ[n]? = some p → ρ'[n]? = some p) : LocC X env C s'.heap ρ' f := by
  obtain ⟨⟨mC, hn, h⟩, hc⟩ := c
  refine ⟨⟨mC, ns_of_get hn k, fun x v e => ?_⟩, hc.mono hi⟩
  obtain ⟨z, w, a, b, d⟩ := h x v e
  exact ⟨z, w, a, b, hv _ _ d⟩

mutual
theorem asgC_ok {prog : Program} {w₀ : World} (W : EnvOK X env kd) (hC : env.locals = C) (hh : A.handled = none) : ∀ {e : Expr} {t : Tg} {s : Shared} {ρ : Rho} {σ σ' : Hp} {f : Fr'} {v : V} {w : Value} {l : List (Nat × V)} {Q : Unit → Shared → Prop}, TrTg kd e t → After X m s₀ ρ₀ s ρ σ → Side X s₀ ρ s.heap C → LocC X env C s.heap ρ f →
    VR X.G s.heap ρ v w → asgT f σ t v = some (l, σ') → (∀ s', After X m s₀ ρ₀ s' ρ σ' → Side X s₀ ρ s'.heap C → LocC X env C s'.heap ρ ⟨l, f.cel, f.dep⟩ → MvC X s₀ C s ρ s' ρ → Q () s') → wpAny (model prog w₀) A (assign e env w) Q E s
  | _, .name i, s, ρ, σ, σ', f, v, w, l, Q, h, a, S, c, Vv, e, hq => by
    obtain ⟨x, p, rfl, hx, hk⟩ := h
    cases e
    obtain ⟨⟨mC, hn, hv⟩, hc⟩ := c
    refine assign_Name (wpAny_storeName_local ((W.kd _).trans hk) (hC ▸ hn) (fun h' hn' hs => ?_) (by rw [W.kind]; rfl))
    rw [hC] at hn' hs
    have k := SameBut_k hs
    have M := MvC.aside (tk := s.toks + 1) S k (Nat.le_succ _)
    have hn2 := hn'
    obtain ⟨o, es, n, eo, ed, zz⟩ := hn2
    refine hq _ (a.side S k) (S.set eo (nv_dict ed)) ⟨⟨_, hn', fun y u e => ?_⟩, hc⟩ M
    rw [lk_putS] at e
    by_cases hy : y = i
    · subst hy
      rw [if_pos rfl] at e; cases e
      exact ⟨_, w, hx, if_pos rfl, M.vr _ _ Vv⟩
    · rw [if_neg hy] at e
      obtain ⟨z, w', e1, e2, e3⟩ := hv y u e
      exact ⟨z, w', e1, (if_neg (c := z = _) fun (q : z = _) => hy (nm_inj e1 (q ▸ hx))).trans e2, M.vr _ _ e3⟩
  | _, .cel i, s, ρ, σ, σ', f, v, w, l, Q, h, a, S, c, Vv, e, hq => by
    obtain ⟨x, p, rfl, hx, hk⟩ := h
    obtain ⟨n, o, hn, ho, e⟩ := asgT_cel e
    cases e
    refine assign_Name (store_cell hx hk W a.at_ (c.loc (s₀ := s₀) (m := m) hC S) Vv hn ho fun s' st => ?_)
    have M := MvC.after (s₀ := s₀) (C := C) a.at_ st.after st.toks
    obtain ⟨S', kC⟩ := S.after st.after
    exact hq s' (a.trans st.after) S' (c.move kC M.vr M.idx) M
  | _, .tup ts, s, ρ, σ, σ', f, v, w, l, Q, h, a, S, c, Vv, e, hq => by
    obtain ⟨es, k, p, rfl, h⟩ := h
    obtain ⟨vs, rfl, e⟩ := asgT_tup e
    obtain ⟨b, ws, rfl, ⟨ht, -⟩, r⟩ := Vv
    show wpAny _ A (do standAt p; unpack (.ref b) (assignEach es env)) Q E s
    refine wpAny_bind (wpAny_standAt ?_)
    unfold unpack
    rw [tgs_plain env h]
    have hz : (assignEach es env).length = ws.toArray.size := by rw [tgs_len env h, List.size_toArray, ← r.length, asgTs_len e]
    rw [hz]
    refine wpAny_bind (wpAny_holding (unpackItems_tuple hh ht fun h' he => ?_))
    have x : After X m s ρ { s with heap := h', toks := s.toks } ρ σ := .keep a.at_ (a.at_.fr.extBut he (Nat.le_refl _)) fun b o e' hb => he b o (Nat.ne_of_lt (Heap.lt_size e')) e'
    have M := MvC.after (s₀ := s₀) (C := C) a.at_ x (Nat.le_refl _)
    obtain ⟨S', kC⟩ := S.after x
    exact asgsC_ok W hC hh h (a.trans x) S' (c.move kC M.vr M.idx) (M.vrs _ _ r) e fun s' a' Sx cx Mx => hq s' a' Sx cx (M.trans Mx)
theorem asgsC_ok {prog : Program} {w₀ : World} (W : EnvOK X env kd) (hC : env.locals = C) (hh : A.handled = none) : ∀ {es : List Expr} {ts : List Tg} {s : Shared} {ρ : Rho} {σ σ' : Hp} {f : Fr'} {vs : List V} {ws : List Value} {l : List (Nat × V)} {Q : Unit → Shared → Prop}, TrTgs kd es ts → After X m s₀ ρ₀ s ρ σ → Side X s₀ ρ s.heap C → LocC X env C s.heap ρ f →
    VRs X.G s.heap ρ vs ws → asgTs f σ ts vs = some (l, σ') → (∀ s', After X m s₀ ρ₀ s' ρ σ' → Side X s₀ ρ s'.heap C → LocC X env C s'.heap ρ ⟨l, f.cel, f.dep⟩ → MvC X s₀ C s ρ s' ρ → Q () s') → wpAny (model prog w₀) A (assignInOrder ((assignEach es env).map (·.2)) ws) Q E s
  | _, [], s, ρ, σ, σ', f, vs, ws, l, Q, h, a, S, c, Vv, e, hq => by
    obtain rfl := h.inv0
    obtain ⟨rfl, e⟩ := asgTs_nil e
    cases e
    obtain rfl := Vv.nil
    exact wpAny_pure (hq s a S c .refl)
  | _, t :: ts, s, ρ, σ, σ', f, vs, ws, l, Q, h, a, S, c, Vv, e, hq => by
    obtain ⟨zz, es, rfl, ht, hs⟩ := h.inv
    obtain ⟨v, vs, l₁, σ₁, rfl, e₁, e⟩ := asgTs_cons e
    obtain ⟨w, ws, rfl, Vv1, Vv2⟩ := Vv.cons
    rw [ht.star]
    show wpAny _ A (do holding ws (assign _ env w); assignInOrder ((assignEach es env).map (·.2)) ws) Q E s
    refine wpAny_bind (wpAny_holding (asgC_ok W hC hh ht a S c Vv1 e₁ fun s₁ a₁ S₁ c₁ M₁ => ?_))
    exact asgsC_ok W hC hh hs a₁ S₁ c₁ (M₁.vrs _ _ Vv2) e fun s₂ a₂ S₂ c₂ M₂ => hq s₂ a₂ S₂ c₂ (M₁.trans M₂)
end
end
end Mine.Internal
end

section
open PySem PySem.W PyProof.Rows PySem.Calls PySem.SeqAt
set_option autoImplicit false
set_option maxRecDepth 100000
namespace Mine.Internal

variable {g : Pg} {P : Tab} {r : Rec}

theorem R.bind_ok {α β : Type} {x : R α} {k : α → Hp → R β} {a : β} {h : Hp} (e : x.bind k = .ok a h) : ∃ b h₁, x = .ok b h₁ ∧ k b h₁ = .ok a h := by
  cases x with
  | ok b h₁ => exact ⟨b, h₁, rfl, e⟩
  | ex c m h₁ => cases e
  | no => cases e

section
variable {A : Around} {X : Bx} {fenv env : Env} {outer : List Env} {m : Str → Option Value} {s : Shared} {ρ : Rho} {σ : Hp} {f : Fr'} {kd : Kd} {E : Value → Shared → Prop}

theorem forIn_false {env : Env} : ∀ cs : List Expr, (forIn cs false fun c (r : Bool) => if r = true then (do let ok ← isTrue c env (eval c env); pure (ForInStep.yield ok)) else (pure (ForInStep.yield r) : Sem (ForInStep Bool))) = pure false
  | [] => by rw [List.forIn_nil]
  | c :: cs => by
    rw [List.forIn_cons, if_neg (by decide), pure_bind]
    exact forIn_false cs
theorem tests_ok (ht : ST g r) (γ : Gr g A X fenv outer f.dep) (W : EnvOK X env kd) : ∀ {cs : List Expr} {ts : List T} {σ : Hp} {s : Shared} {ρ : Rho} {Q : Bool → Shared → Prop}, TrEs kd cs ts → At X m s ρ σ → Loc X env m s.heap ρ f → 0 < s.toks →
    Cont X (fenv :: outer) m s ρ (tsts r f ts σ) (fun zz zz b b' => b = b') (fun w s' => s.toks ≤ s'.toks → Q w s') E →
    wpAny (model g.prog g.w) A (forIn cs true fun c r => if r = true then do let ok ← isTrue c env (eval c env); pure (ForInStep.yield ok) else pure (ForInStep.yield r)) Q E s := by
  intro cs ts
  induction ts generalizing cs with
  | nil =>
    intro σ s ρ Q h at_ c tk C
    obtain rfl := h.inv0
    rw [List.forIn_nil]
    exact wpAny_pure (Cont.ok at_ C rfl (Nat.le_refl _))
  | cons zz ts ih =>
    intro σ s ρ Q h at_ c tk C
    obtain ⟨zz, es, rfl, h, hs⟩ := h.inv
    rw [List.forIn_cons, if_pos rfl]
    refine wpAny_bind (wpAny_bind (ht _ _ _ _ _ _ _ _ _ _ _ _ _ _ _ h γ W at_ c tk (Cont.bind (RvA := fun zz zz b b' => b = b') C fun b σ₁ b' s₁ ρ₁ zz x₁ V₁ C₁ k₁ => ?_)))
    subst V₁
    refine wpAny_pure ?_
    cases b with
    | true => exact ih hs x₁.at_ (c.after at_ x₁) (om22 ‹_› ‹_›) (Cont.mapE C₁ (fun b s' x k => x (om23 ‹_› ‹_›)) fun zz zz z => z)
    | false =>
      dsimp only
      rw [show (forIn es false fun c (r : Bool) => if r = true then (do let ok ← isTrue c env (eval c env); pure (ForInStep.yield ok)) else (pure (ForInStep.yield r) : Sem (ForInStep Bool))) = pure false from forIn_false es]
      exact wpAny_pure (Cont.ok x₁.at_ C₁ rfl ‹_›)

noncomputable def nofail : Value → Shared → Prop := fun zz zz => False
noncomputable def CompQ (M : Model) (A : Around) (elt target : Expr) (ifs : List Expr) (it acc : Value) (env : Env) (J : Nat → Shared → Prop) (Rn : Shared → Prop) (n : Nat) : Option Value → Shared → Prop := fun r s => match r with
  | none => Rn s
  | some v => wpAny M A (letOwnedTupleGo target it v) (fun zz s => wpAny M A (assign target env v) (fun zz s => wpAny M A (forIn ifs true fun c r => if r = true then do let ok ← isTrue c env (eval c env); pure (ForInStep.yield ok) else pure (ForInStep.yield r))
      (fun ok s => if ok = true then wpAny M A (eval elt env) (fun x s => wpAny M A (PySem.call (.builtin "list.append") [acc, x]) (fun zz s => ∃ m, m < n ∧ J m s) nofail s) nofail s else ∃ m, m < n ∧ J m s) nofail s) nofail s) nofail s
theorem codeAny_compLoop_any {prog : Program} {w : World} {R : Result → Shared → Prop} {elt target iter : Expr} {ifs : List Expr} {scope : Scope} {pos : Pos} {it acc : Value} (J : Nat → Shared → Prop)
    (turn : ∀ n s, J n s → wpAny (model prog w) A (pyNext it) (CompQ (model prog w) A elt target ifs it acc env J (R (.ok .next)) n) nofail s)
    (n : Nat) (h : J n s) : codeAny (model prog w) A (.compLoop (.ListComp elt [⟨target, iter, ifs, 0⟩] scope pos) 0 it acc env) R s := by
  refine codeAny_loop rfl J (fun n s hI => ?_) n h
  show wpAny _ A ((compTurn (.ListComp elt [⟨target, iter, ifs, 0⟩] scope pos) 0 it acc env).onRaise (fun x => do noteFrame x env; theTreesLotGoes x)) _ _ s
  refine wpAny_noted (wpAny_noRaise ?_)
  rw [compTurn_list]
  refine wpAny_bind (wpAny_standAt (wpAny_bind (wpAny_mono (turn n s hI) (fun r s₁ h₁ => ?_) fun zz zz h' => h')))
  cases r with
  | none => exact wpAny_pure h₁
  | some v =>
    refine wpAny_bind (wpAny_mono h₁ (fun zz s₁' h₁' => ?_) fun zz zz h' => h')
    refine wpAny_bind (wpAny_mono h₁' (fun zz s₂ h₂ => wpAny_bind (wpAny_mono h₂ (fun ok s₃ h₃ => ?_) fun zz zz h' => h')) fun zz zz h' => h')
    cases ok with
    | false => exact wpAny_pure ⟨rfl, h₃⟩
    | true =>
      exact wpAny_bind (wpAny_bind (wpAny_mono h₃ (fun x s₄ h₄ => wpAny_bind (wpAny_mono h₄ (fun zz s₅ h₅ => wpAny_pure (wpAny_pure ⟨rfl, h₅⟩)) fun zz zz h' => h')) fun zz zz h' => h'))
end

structure CInv (X : Bx) (m : Str → Option Value) (env : Env) (s₀ : Shared) (ρ₀ : Rho) (I D C : Addr) (src : V) (i : Nat) (acc : List V) (f : Fr') (σ : Hp) (ρ : Rho) (s : Shared) : Prop where
  aft : After X m s₀ ρ₀ s ρ σ
  sI : Side X s₀ ρ s.heap I
  sD : Side X s₀ ρ s.heap D
  sC : Side X s₀ ρ s.heap C
  loc : LocC X env C s.heap ρ f
  it : ItR s.heap ρ I i src
  lst : ∃ ws k, s.heap.get? D = some (W.listOf ws k) ∧ VRs X.G s.heap ρ acc ws.toList
  toks : s₀.toks ≤ s.toks
structure CSt (P : Tab) (X : Bx) (m : Str → Option Value) (env : Env) (s₀ : Shared) (ρ₀ : Rho) (I D C : Addr) (dep : Nat) (e : T) (t : Tg) (src : V) (cs : List T) (vs : List V) (σ' : Hp) (n i : Nat) (acc : List V) (f : Fr') (σ : Hp) (ρ : Rho) (s : Shared) : Prop where
  out : (run P n).compL e t src cs i acc f σ = .ok vs σ'
  dp : f.dep = dep
  inv : CInv X m env s₀ ρ₀ I D C src i acc f σ ρ s
section
variable {A : Around} {X : Bx} {fenv env : Env} {outer : List Env} {m : Str → Option Value} {s₀ s s' : Shared} {ρ₀ ρ ρ' : Rho} {I D C : Addr} {src v u : V} {w : Value} {i : Nat} {acc : List V} {f : Fr'} {σ σ' : Hp} {E : Value → Shared → Prop}
theorem CInv.item (V : CInv X m env s₀ ρ₀ I D C src i acc f σ ρ s) (hIC : I ≠ C) (hDI : D ≠ I) (hs : srcAt σ i src = some (some v)) {Q : Option Value → Shared → Prop}
    (hq : ∀ w s', CInv X m env s₀ ρ₀ I D C src (i + 1) acc f σ ρ s' → VR X.G s'.heap ρ v w → Q (some w) s') : wpAny (model g.prog g.w) A (pyNext (.ref I)) Q E s := by
  refine iter_item V.aft.at_ V.aft V.sI V.it hs fun w h₁ tk₁ k₁ kt₁ x₁ S₁ it₁ V₁ => hq w { s with heap := h₁, toks := tk₁ } ?_ V₁
  have M : MvC X s₀ I s ρ { s with heap := h₁, toks := tk₁ } ρ := .aside V.sI k₁ kt₁
  obtain ⟨SD, kD⟩ := M.side D hDI V.sD
  obtain ⟨SC, kC⟩ := M.side C (Ne.symm hIC) V.sC
  obtain ⟨ws, k, e, r⟩ := V.lst
  exact ⟨x₁, S₁, SD, SC, V.loc.move kC M.vr M.idx, it₁, ⟨ws, k, kD _ e, M.vrs _ _ r⟩, Nat.le_trans V.toks kt₁⟩
theorem CInv.asg {kd : Kd} {target : Expr} {t : Tg} {l : List (Nat × V)} (V : CInv X m env s₀ ρ₀ I D C src i acc f σ ρ s) (hIC : I ≠ C) (hDC : D ≠ C) (We : EnvOK X env kd) (hC : env.locals = C) (hh : A.handled = none) (Tt : TrTg kd target t) (hv : VR X.G s.heap ρ v w) (hasg : asgT f σ t v = some (l, σ'))
    {Q : Unit → Shared → Prop} (hq : ∀ s', CInv X m env s₀ ρ₀ I D C src i acc ⟨l, f.cel, f.dep⟩ σ' ρ s' → Q () s') : wpAny (model g.prog g.w) A (assign target env w) Q E s := by
  refine asgC_ok We hC hh Tt V.aft V.sC V.loc hv hasg fun s₂ x₂ SC₂ c₂ M => hq s₂ ?_
  obtain ⟨SI, kI⟩ := M.side I hIC V.sI
  obtain ⟨SD, kD⟩ := M.side D hDC V.sD
  obtain ⟨ws, k, e, r⟩ := V.lst
  exact ⟨x₂, SI, SD, SC₂, c₂, V.it.move kI M.idx, ⟨ws, k, kD _ e, M.vrs _ _ r⟩, Nat.le_trans V.toks M.toks⟩
theorem CInv.after (V : CInv X m env s₀ ρ₀ I D C src i acc f σ ρ s) (y : After X m s ρ s' ρ' σ') (kt : s.toks ≤ s'.toks) : CInv X m env s₀ ρ₀ I D C src i acc f σ' ρ' s' := by
  have M : MvC X s₀ C s ρ s' ρ' := .after V.aft.at_ y kt
  obtain ⟨SI, kI⟩ := V.sI.after y
  obtain ⟨SD, kD⟩ := V.sD.after y
  obtain ⟨SC, kC⟩ := V.sC.after y
  obtain ⟨ws, k, e, r⟩ := V.lst
  exact ⟨V.aft.trans y, SI, SD, SC, V.loc.move kC M.vr M.idx, V.it.move kI M.idx, ⟨ws, k, kD _ e, M.vrs _ _ r⟩, Nat.le_trans V.toks kt⟩
theorem CInv.app (V : CInv X m env s₀ ρ₀ I D C src i acc f σ ρ s) (hDC : D ≠ C) (hDI : D ≠ I) (hv : VR X.G s.heap ρ u w) (hlim : acc.length ≤ LIM) {Q : Value → Shared → Prop} (hq : ∀ z s', CInv X m env s₀ ρ₀ I D C src i (acc ++ [u]) f σ ρ s' → Q z s') :
    wpAny (model g.prog g.w) A (PySem.call (.builtin "list.append") [.ref D, w]) Q E s := by
  obtain ⟨ws, k, e, r⟩ := V.lst
  refine append_at e (fun h₅ hs₅ ho₅ => hq _ { s with heap := h₅ } ?_) (by rw [← Array.length_toList, ← r.length]; exact lim_line hlim)
  have k₅ := SameBut_k hs₅
  have M : MvC X s₀ D s ρ { s with heap := h₅, toks := s.toks } ρ := .aside V.sD k₅ (Nat.le_refl _)
  obtain ⟨SI, kI⟩ := M.side I (Ne.symm hDI) V.sI
  obtain ⟨SC, kC⟩ := M.side C (Ne.symm hDC) V.sC
  refine ⟨V.aft.side (tk := s.toks) V.sD k₅, SI, V.sD.set ho₅ (nv_list _ _), SC, V.loc.move kC M.vr M.idx, V.it.move kI M.idx, ⟨_, _, ho₅, ?_⟩, V.toks⟩
  rw [Array.toList_push]
  exact (M.vrs _ _ r).append ⟨M.vr _ _ hv, trivial⟩
theorem comp_turn {kd : Kd} {j : Nat} {e : T} {t : Tg} {cs : List T} {elt target : Expr} {ifs : List Expr} (hr : SE g r) (ht : ST g r) (Te : TrE kd elt e) (Tt : TrTg kd target t) (Tc : TrEs kd ifs cs)
    (We : EnvOK X env kd) (hC : env.locals = C) (γ : Gr g A X fenv outer f.dep) (hIC : I ≠ C) (hDC : D ≠ C) (hDI : D ≠ I) (tk₀ : 0 < s₀.toks) {vs : List V} {Rn : Shared → Prop} {J : Nat → Shared → Prop}
    (V : CInv X m env s₀ ρ₀ I D C src i acc f σ ρ s) (ho : compF r e t src cs i acc f σ = .ok vs σ') (hR : ∀ s' ρ' ws k, After X m s₀ ρ₀ s' ρ' σ' → Side X s₀ ρ' s'.heap D → Side X s₀ ρ' s'.heap C → s'.heap.get? D = some (W.listOf ws k) → VRs X.G s'.heap ρ' vs ws.toList → (∃ mC, s'.heap.Ns C mC) → s₀.toks ≤ s'.toks → Rn s')
    (hJ : ∀ {l acc σ₁ ρ₁ s₁}, r.compL e t src cs (i + 1) acc ⟨l, f.cel, f.dep⟩ σ₁ = .ok vs σ' → CInv X m env s₀ ρ₀ I D C src (i + 1) acc ⟨l, f.cel, f.dep⟩ σ₁ ρ₁ s₁ → J j s₁) :
    wpAny (model g.prog g.w) A (pyNext (.ref I)) (CompQ (model g.prog g.w) A elt target ifs (.ref I) (.ref D) env J Rn (j + 1)) nofail s := by
  unfold compF at ho
  cases hs : srcAt σ i src with
  | none => rw [hs] at ho; cases ho
  | some o =>
    rw [hs] at ho
    cases o with
    | none =>
      cases ho
      refine iter_done V.aft.at_ γ.hh V.aft V.sI V.it hs fun h₁ k₁ x₁ => ?_
      have M : MvC X s₀ I s ρ { s with heap := h₁, toks := s.toks } ρ := .aside V.sI k₁ (Nat.le_refl _)
      obtain ⟨SD, kD⟩ := M.side D hDI V.sD
      obtain ⟨SC, kC⟩ := M.side C (Ne.symm hIC) V.sC
      obtain ⟨⟨mC, hn, zz⟩, zz⟩ := V.loc
      obtain ⟨ws, k, e, r⟩ := V.lst
      exact hR _ ρ ws k x₁ SD SC (kD _ e) (M.vrs _ _ r) ⟨mC, ns_of_get hn kC⟩ V.toks
    | some v =>
      refine V.item hIC hDI hs fun w s₁ V₁ hv => iter_own V₁.it ?_
      dsimp only at ho
      cases hasg : asgT f σ t v with
      | none => rw [hasg] at ho; cases ho
      | some q =>
        rw [hasg] at ho
        refine V₁.asg hIC hDC We hC γ.hh Tt hv hasg fun s₂ V₂ => ?_
        obtain ⟨b, σ₃, hb, ho⟩ := R.bind_ok ho
        clear V V₁ hs hasg
        refine tests_ok (f := ⟨q.1, f.cel, f.dep⟩) (E := nofail) ht γ We Tc V₂.aft.at_ (V₂.loc.loc (s₀ := s₀) hC V₂.sC) (Nat.lt_of_lt_of_le tk₀ V₂.toks) ?_
        rw [hb]
        intro b' s₃ ρ₃ y₃ eb kt₃
        subst eb
        have V₃ := V₂.after y₃ kt₃
        cases b with
        | false => exact ⟨j, Nat.lt_succ_self _, hJ ho V₃⟩
        | true =>
          obtain ⟨u, σ₄, hu, ho⟩ := R.bind_ok ho
          by_cases hlim : acc.length ≤ LIM
          · rw [if_pos hlim] at ho
            refine hr _ ⟨q.1, f.cel, f.dep⟩ _ _ _ _ _ _ _ _ _ _ _ _ _ Te γ We V₃.aft.at_ (V₃.loc.loc (s₀ := s₀) hC V₃.sC) (Nat.lt_of_lt_of_le tk₀ V₃.toks) ?_
            rw [hu]
            intro w₄ s₄ ρ₄ y₄ hv₄ kt₄
            exact (V₃.after y₄ kt₄).app hDC hDI hv₄ hlim fun z s₅ V₅ => ⟨j, Nat.lt_succ_self _, hJ ho V₅⟩
          · rw [if_neg hlim] at ho; cases ho
end
theorem L_comp {n : Nat} (hall : ∀ k, k < n → SE g (run P k) ∧ ST g (run P k)) {kd : Kd} {e : T} {t : Tg} {cs : List T} {src : V} {elt target iter : Expr} {ifs : List Expr} {scope : Scope} {pos : Pos}
    (Te : TrE kd elt e) (Tt : TrTg kd target t) (Tc : TrEs kd ifs cs) {A : Around} {X : Bx} {fenv env : Env} {outer : List Env} {m : Str → Option Value} {s₀ s : Shared} {ρ₀ : Rho} {I D C : Addr} {dep : Nat}
    (We : EnvOK X env kd) (hC : env.locals = C) (γ : Gr g A X fenv outer dep) (hIC : I ≠ C) (hDC : D ≠ C) (hDI : D ≠ I) (tk₀ : 0 < s₀.toks) {vs : List V} {σ' : Hp} {Rs : Result → Shared → Prop}
    (hR : ∀ s' ρ' ws k, After X m s₀ ρ₀ s' ρ' σ' → Side X s₀ ρ' s'.heap D → Side X s₀ ρ' s'.heap C → s'.heap.get? D = some (W.listOf ws k) → VRs X.G s'.heap ρ' vs ws.toList → (∃ mC, s'.heap.Ns C mC) → s₀.toks ≤ s'.toks → Rs (.ok .next) s')
    {i : Nat} {acc : List V} {f : Fr'} {σ : Hp} {ρ : Rho} (st : CSt P X m env s₀ ρ₀ I D C dep e t src cs vs σ' n i acc f σ ρ s) :
    codeAny (model g.prog g.w) A (.compLoop (.ListComp elt [⟨target, iter, ifs, 0⟩] scope pos) 0 (.ref I) (.ref D) env) Rs s := by
  refine codeAny_compLoop_any (fun j s => j ≤ n ∧ ∃ i acc f σ ρ, CSt P X m env s₀ ρ₀ I D C dep e t src cs vs σ' j i acc f σ ρ s) (fun j s => ?_) n ⟨Nat.le_refl _, _, _, _, _, _, st⟩
  generalize hJ : (fun j s => j ≤ n ∧ ∃ i acc f σ ρ, CSt P X m env s₀ ρ₀ I D C dep e t src cs vs σ' j i acc f σ ρ s) = J
  intro h
  obtain ⟨hj, i, acc, f, σ, ρ, st⟩ := h
  cases j with
  | zero => cases st.out
  | succ j =>
    obtain ⟨ho, hd, V⟩ := st
    subst hd
    refine comp_turn (hall j hj).1 (hall j hj).2 Te Tt Tc We hC γ hIC hDC hDI tk₀ V ho hR fun e V => ?_
    rw [← hJ]; exact ⟨Nat.le_of_succ_le hj, _, _, _, _, _, e, rfl, V⟩
end Mine.Internal
end

section
open PySem PySem.W PyProof.Rows PySem.Calls PySem.SeqAt
set_option autoImplicit false
set_option maxRecDepth 100000
namespace Mine.Internal

variable {g : Pg} {P : Tab}

theorem lk_filter (fv : List Nat) (x : Nat) : ∀ l : List (Nat × Nat), lk x (l.filter fun p => fv.contains p.1) = if fv.contains x then lk x l else none
  | [] => by rw [List.filter_nil, lk_nil, ite_self]
  | (y, v) :: r => by
    have ih := lk_filter fv x r
    by_cases hy : fv.contains y = true
    · rw [List.filter_cons_of_pos (by exact hy)]
      rw [lk_cons, lk_cons]
      by_cases h : x = y
      · subst h; rw [Nat.beq_refl, if_pos rfl, if_pos rfl, if_pos hy]
      · rw [if_neg (fun q => h (Nat.eq_of_beq_eq_true q)), if_neg (fun q => h (Nat.eq_of_beq_eq_true q)), ih]
    · rw [List.filter_cons_of_neg (by exact hy), ih]
      by_cases h : x = y
      · subst h; rw [if_neg hy, if_neg hy]
      · rw [lk_cons, if_neg (fun q => h (Nat.eq_of_beq_eq_true q))]

noncomputable def cF (env : Env) : List (Str × NameKind) → List (Str × Addr) → List (Str × Addr)
  | [], acc => acc
  | (n, k) :: r, acc => if k == .free then cF env r ((n, (env.cells.lookup n).getD 0) :: acc) else cF env r acc
theorem cF_cons {env : Env} {n : Str} {k : NameKind} {r : List (Str × NameKind)} {acc : List (Str × Addr)} : cF env ((n, k) :: r) acc = if k == .free then cF env r ((n, (env.cells.lookup n).getD 0) :: acc) else cF env r acc := rfl
theorem cF_for (env : Env) (f : Str × NameKind → List (Str × Addr) → Sem (ForInStep (List (Str × Addr)))) (hf : ∀ n k acc, f (n, k) acc = if k == .free then (do let a ← cellOf env n; pure (.yield ((n, a) :: acc))) else pure (.yield acc)) :
    ∀ (names : List (Str × NameKind)) (acc : List (Str × Addr)), (∀ y ∈ names, y.2 = .free → (env.cells.lookup y.1).isSome = true) → forIn names acc f = pure (cF env names acc)
  | [], acc, _ => by rw [List.forIn_nil]; rfl
  | (n, k) :: r, acc, h => by
    rw [List.forIn_cons, hf]
    rw [cF_cons]
    have hr : ∀ y ∈ r, y.2 = .free → (env.cells.lookup y.1).isSome = true := fun y hy => h y (List.mem_cons_of_mem _ hy)
    by_cases hk : (k == .free) = true
    · rw [if_pos hk, if_pos hk]
      obtain ⟨c, hc⟩ := Option.isSome_iff_exists.mp (h (n, k) (List.mem_cons_self ..) (by simpa using hk))
      have e1 : cellOf env n = pure c := by
        unfold cellOf
        rw [show env.cells.lookup n = some c from hc]
      rw [e1, pure_bind, pure_bind, show (env.cells.lookup n).getD 0 = c by rw [show env.cells.lookup n = some c from hc]; rfl]
      exact cF_for env f hf r _ hr
    · rw [if_neg hk, if_neg hk, pure_bind]
      exact cF_for env f hf r _ hr
theorem closure_ok {scope : Scope} {env : Env} (h : ∀ y ∈ scope.names, y.2 = .free → (env.cells.lookup y.1).isSome = true) : closureFor scope env = pure (cF env scope.names []) := by
  unfold closureFor
  dsimp only
  rw [cF_for env _ (fun n k acc => by cases hk : k == NameKind.free <;> simp [hk]) _ _ h]
  rfl
theorem cF_get (env : Env) {z : Str} {c : Addr} (hz : env.cells.lookup z = some c) : ∀ (names : List (Str × NameKind)) (acc : List (Str × Addr)), ((z, NameKind.free) ∈ names ∨ acc.lookup z = some c) → (cF env names acc).lookup z = some c
  | [], acc, h => by
    rcases h with h | h
    · cases h
    · exact h
  | (n, k) :: r, acc, h => by
    rw [cF_cons]
    by_cases hk : (k == .free) = true
    · rw [if_pos hk]
      refine cF_get env hz r _ ?_
      by_cases hn : z = n
      · subst hn
        right
        rw [List.lookup_cons, beq_self_eq_true, hz]; rfl
      · have hne : (z == n) = false := beq_eq_false_iff_ne.mpr hn
        rcases h with h | h
        · rcases List.mem_cons.mp h with q | q
          · cases q; exact absurd rfl hn
          · exact .inl q
        · right; rw [List.lookup_cons, hne]; exact h
    · rw [if_neg hk]
      refine cF_get env hz r acc ?_
      rcases h with h | h
      · rcases List.mem_cons.mp h with q | q
        · cases q; exact absurd rfl hk
        · exact .inl q
      · exact .inr h
theorem freesB_mem : ∀ {names : List (Str × NameKind)} {fv : List Nat}, freesB names fv = true → (∀ x ∈ fv, ∃ z, nm[x]? = some z ∧ (z, NameKind.free) ∈ names) ∧ ∀ y ∈ names, y.2 = .free → ∃ x ∈ fv, nm[x]? = some y.1
  | [], [], _ => ⟨fun zz h => (by cases h), fun zz h => (by cases h)⟩
  | [], _ :: _, h => nomatch h
  | (x, k) :: r, fv, h => by
    change (if (k == .free) = true then (match (generalizing := false) fv with | c :: cs' => nm[c]? == some x && freesB r cs' | [] => false) else freesB r fv) = true at h
    by_cases hk : (k == .free) = true
    · rw [if_pos hk] at h
      cases fv with
      | nil => exact no_true h
      | cons c cs =>
        have h := Bool.and_eq_true_iff.mp h
        have hx := eq_of_beq h.1
        obtain ⟨h1, h2⟩ := freesB_mem h.2
        have hk' : k = .free := by simpa using hk
        subst hk'
        refine ⟨fun y hy => ?_, fun y hy hf => ?_⟩
        · rcases List.mem_cons.mp hy with rfl | hy
          · exact ⟨x, hx, .head _⟩
          · obtain ⟨z, e1, e2⟩ := h1 y hy
            exact ⟨z, e1, .tail _ e2⟩
        · rcases List.mem_cons.mp hy with rfl | hy
          · exact ⟨c, .head _, hx⟩
          · obtain ⟨z, e1, e2⟩ := h2 y hy hf
            exact ⟨z, .tail _ e1, e2⟩
    · rw [if_neg hk] at h
      obtain ⟨h1, h2⟩ := freesB_mem h
      refine ⟨fun y hy => ?_, fun y hy hf => ?_⟩
      · obtain ⟨z, e1, e2⟩ := h1 y hy
        exact ⟨z, e1, .tail _ e2⟩
      · rcases List.mem_cons.mp hy with rfl | hy
        · exact absurd (by rw [show k = NameKind.free from hf]; rfl) hk
        · exact h2 y hy hf
theorem noCells : ∀ {names : List (Str × NameKind)}, names.all (fun y => y.2 != .cell) = true → cellsB names [] = true
  | [], _ => rfl
  | (x, k) :: r, h => by
    rw [List.all_cons, Bool.and_eq_true] at h
    change (if (k == .cell) = true then _ else cellsB r []) = true
    have : (k == NameKind.cell) = false := by simpa using h.1
    rw [this, if_neg (by decide)]
    exact noCells h.2

section
variable {X : Bx} {m : Str → Option Value} {s₀ s : Shared} {ρ₀ ρ : Rho} {σ₀ σ : Hp}
theorem After.adopt {D : Addr} {vs : List V} {ws : Array Value} {k : Nat} (x : After X m s₀ ρ₀ s ρ σ) (S : Side X s₀ ρ s.heap D) (hD : s.heap.get? D = some (W.listOf ws k)) (V : VRs X.G s.heap ρ vs ws.toList) :
    After X m s₀ ρ₀ s (ρ ++ [(D, D)]) (σ ++ [.list vs]) := by
  have a := x.at_
  have hρ : ∀ (n : Nat) p, ρ[n]? = some p → (ρ ++ [(D, D)])[n]? = some p := fun n p e => by rw [List.getElem?_append_left (List.getElem?_eq_some_iff.mp e).1, e]
  have vm : ∀ v w, VR X.G s.heap ρ v w → VR X.G s.heap (ρ ++ [(D, D)]) v w := fun v w => VR.mono (fun zz zz zz z => z) (fun zz zz zz zz zz z => z) hρ v w
  have vsm : ∀ v w, VRs X.G s.heap ρ v w → VRs X.G s.heap (ρ ++ [(D, D)]) v w := fun v w => VRs.mono (fun zz zz zz z => z) (fun zz zz zz zz zz z => z) hρ v w
  obtain ⟨t, ht, hn⟩ := x.ext.pre
  refine ⟨x.eq, ⟨a.fr, ⟨by simp [a.rel.len], fun n o e => ?_, fun p hp => ?_, ?_, a.rel.mutF⟩, a.out, a.apart, a.bad⟩, ⟨⟨t ++ [(D, D)], by rw [ht]; simp, fun p hp => ?_⟩, x.ext.keep⟩⟩
  · by_cases hlt : n < σ.length
    · rw [List.getElem?_append_left hlt] at e
      obtain ⟨p, hp, ho⟩ := a.rel.obj n o e
      refine ⟨p, hρ _ _ hp, ?_⟩
      cases o with
      | list vs => obtain ⟨q, ws, n, c1, c2⟩ := ho; exact ⟨q, ws, n, c1, vsm _ _ c2⟩
      | inst C fs => obtain ⟨q, es, n, c1, c2⟩ := ho; exact ⟨q, es, n, c1, FRel.mono vm _ _ c2⟩
      | cell v =>
        obtain ⟨q, o, w, c1, c2, c3⟩ := ho
        refine ⟨q, o, w, c1, c2, ?_⟩
        cases v <;> cases w <;> first | exact c3 | exact vm _ _ c3
      | clos kk cs => obtain ⟨q, o, fd, c1, c2, c3, c4, cr, c5⟩ := ho; exact ⟨q, o, fd, c1, c2, c3, c4, cr, c5.mono hρ⟩
    · have hlt' : σ.length ≤ n := Nat.not_lt.mp hlt
      rw [List.getElem?_append_right hlt'] at e
      have hz : n = σ.length := by
        rcases Nat.lt_or_ge 0 (n - σ.length) with q | q
        · rw [List.getElem?_eq_none (by simp only [List.length_singleton]; exact Nat.succ_le_of_lt ‹_›)] at e; cases e
        · omega
      subst hz
      simp at e; subst e
      exact ⟨(D, D), by rw [← a.rel.len]; simp, rfl, ws, k, hD, vsm _ _ V⟩
  · rcases List.mem_append.mp hp with hp | hp
    · exact a.rel.new p hp
    · rw [List.mem_singleton.mp hp]; exact ⟨S.base, S.fa⟩
  · rw [List.map_append, List.nodup_append]
    refine ⟨a.rel.nod, by simp, fun b hb c hc => ?_⟩
    simp at hc; subst hc
    obtain ⟨q, hq, rfl⟩ := List.mem_map.mp hb
    exact S.rho q hq
  · rcases List.mem_append.mp hp with hp | hp
    · exact hn p hp
    · rw [List.mem_singleton.mp hp]; exact S.new
end

section
variable {A : Around} {X : Bx} {fenv env : Env} {outer : List Env} {m : Str → Option Value} {s : Shared} {ρ : Rho} {σ : Hp} {f : Fr'} {kd : Kd} {Q E : Value → Shared → Prop}

theorem kindOf_in {sc : Scope} {kd : Kd} {env : Env} (W : EnvOK X env kd) (x : Str) : (relabel sc env).names.lookup x = kdIn sc kd x := by
  unfold relabel kdIn
  dsimp only
  congr 1
  apply List.map_congr_left
  rintro ⟨n, k⟩ _
  dsimp only
  rw [W.kind, W.kd]
  simp

theorem comp_frame {s₁ : Shared} {ρ₁ : Rho} {σ₁ : Hp} {h₂ : Heap} {I : Addr} {v₁ : V} {dep : Nat} (x₂ : After X m s₁ ρ₁ { s₁ with heap := h₂, toks := s₁.toks } ρ₁ σ₁) (SI₂ : Side X s₁ ρ₁ h₂ I) (it₂ : ItR h₂ ρ₁ I 0 v₁) :
    CInv X m { env with cells := [] } s₁ ρ₁ I h₂.objs.size (h₂.push (W.listOf #[] 0)).objs.size v₁ 0 [] ⟨[], [], dep⟩ σ₁ ρ₁ { s₁ with heap := (h₂.push (W.listOf #[] 0)).push emptyDict, toks := s₁.toks } ∧
      I ≠ (h₂.push (W.listOf #[] 0)).objs.size ∧ h₂.objs.size ≠ (h₂.push (W.listOf #[] 0)).objs.size ∧ h₂.objs.size ≠ I := by
  have a₂ := x₂.at_
  have x₃ : After X m { s₁ with heap := h₂, toks := s₁.toks } ρ₁ { s₁ with heap := h₂.push (W.listOf #[] 0), toks := s₁.toks } ρ₁ σ₁ := .keep a₂ (a₂.fr.push _) fun b o e zz => Heap.get?_push_of_some _ e
  have a₃ := x₃.at_
  have x₄ : After X m { s₁ with heap := h₂.push (W.listOf #[] 0), toks := s₁.toks } ρ₁ { s₁ with heap := (h₂.push (W.listOf #[] 0)).push emptyDict, toks := s₁.toks } ρ₁ σ₁ := .keep a₃ (a₃.fr.push _) fun b o e zz => Heap.get?_push_of_some _ e
  have SC₄ := Side.push a₃ (x₂.trans x₃) (o := emptyDict) (nv_dict rfl) rfl
  obtain ⟨SD₄, k₄⟩ := Side.after (Side.push a₂ x₂ (o := W.listOf #[] 0) (nv_list _ _) rfl) x₄
  obtain ⟨SI₄, kI⟩ := Side.after SI₂ (x₃.trans x₄)
  obtain ⟨oI, hoI, zz⟩ := SI₂.obj
  have lt := Heap.lt_size hoI
  have e : (h₂.push (W.listOf #[] 0)).objs.size = h₂.objs.size + 1 := Heap.size_push ..
  exact ⟨⟨(x₂.trans x₃).trans x₄, SI₄, SD₄, SC₄, ⟨⟨_, Heap.Ns.new (h₂.push (W.listOf #[] 0)) (.type "dict"), fun x v e => no_some e⟩, fun x n e => no_some e⟩, it₂.move kI fun zz zz e => e, ⟨_, _, k₄ _ (Heap.get?_push_size _ rfl), trivial⟩, Nat.le_refl _⟩,
    e ▸ Nat.ne_of_lt (Nat.lt_succ_of_lt lt), e ▸ Nat.ne_of_lt (Nat.lt_succ_self _), Ne.symm (Nat.ne_of_lt lt)⟩
theorem comp_fin {s₁ s₆ : Shared} {ρ₁ ρ₆ : Rho} {σ₁ σ' : Hp} {D Cc : Addr} {vs : List V} {ws : Array Value} {k : Nat} (x₁ : After X m s ρ s₁ ρ₁ σ₁) (hDC : D ≠ Cc) (x₆ : After X m s₁ ρ₁ s₆ ρ₆ σ') (SD₆ : Side X s₁ ρ₆ s₆.heap D) (SC₆ : Side X s₁ ρ₆ s₆.heap Cc)
    (hD₆ : s₆.heap.get? D = some (W.listOf ws k)) (V₆ : VRs X.G s₆.heap ρ₆ vs ws.toList) : ∃ ρ', After X m s ρ s₆ ρ' (σ' ++ [.list vs]) ∧ VR X.G s₆.heap ρ' (.ref σ'.length) (.ref D) ∧ Side X s ρ' s₆.heap Cc := by
  refine ⟨_, x₁.trans (x₆.adopt SD₆ hD₆ V₆), ⟨(D, D), by rw [← x₆.at_.rel.len, List.getElem?_append_right (Nat.le_refl _), Nat.sub_self]; rfl, rfl⟩, SC₆.base, ?_, SC₆.fa, fun p hp => ?_, SC₆.obj, SC₆.bad⟩
  · cases q : s.heap.get? Cc with
    | none => rfl
    | some o =>
      exfalso
      by_cases hρ : ∀ p ∈ ρ, p.2 ≠ Cc
      · have := x₁.ext.keep _ _ q hρ SC₆.fa
        rw [SC₆.new] at this; cases this
      · obtain ⟨p, h3⟩ := Classical.not_forall.mp hρ
        obtain ⟨h3, h4⟩ := Classical.not_imp.mp h3
        obtain ⟨o', e', zz⟩ := x₁.at_.rel.mut (x₁.ext.mem h3)
        rw [Classical.not_not.mp h4, SC₆.new] at e'; cases e'
  · rcases List.mem_append.mp hp with hp | hp
    · exact SC₆.rho p hp
    · rw [List.mem_singleton.mp hp]; exact hDC
theorem comp_use {n : Nat} (hall : ∀ k, k < n → SE g (run P k) ∧ ST g (run P k)) (hr : SE g (run P n)) {elt target iter : Expr} {ifs : List Expr} {sc : Scope} {p : Pos} {e : T} {t : Tg} {src : T} {cs : List T} {fv : List Nat}
    (hok : compOk sc kd = true) (hfv : freesB sc.names fv = true) (Tt : TrTg (kdIn sc kd) target t) (Ti : TrE kd iter src) (Te : TrE (kdIn sc kd) elt e) (Tc : TrEs (kdIn sc kd) ifs cs)
    (γ : Gr g A X fenv outer f.dep) (Wn : EnvOK X env kd) (at_ : At X m s ρ σ) (c : Loc X env m s.heap ρ f) (tk : 0 < s.toks) {use : Option (Value → Sem Unit)} {out : R V} (hout : evF P (run P n) (.comp e t src cs fv) f σ = out)
    (C : match (generalizing := false) out with
      | .ok v σ' => ∀ D C s' ρ', After X m s ρ s' ρ' σ' → VR X.G s'.heap ρ' v (.ref D) → Side X s ρ' s'.heap C → (∃ mC, s'.heap.Ns C mC) → s.toks ≤ s'.toks → compPost (model g.prog g.w) A E use Q (.ref D) C (.ok .next) s'
      | .ex c _ σ' => ∀ e s', Flown X (fenv :: outer) m s ρ c σ' e s' → E (.ref e) s'
      | .no => False) :
    wpAny (model g.prog g.w) A (comprehension (.ListComp elt [⟨target, iter, ifs, 0⟩] sc p) sc env iter.pos (newList []) false (eval iter env) use) Q E s := by
  unfold compOk at hok
  simp only [Bool.and_eq_true, beq_iff_eq, Bool.not_eq_true'] at hok
  obtain ⟨⟨⟨⟨⟨hkind, hgen⟩, hco⟩, hncell⟩, hloc⟩, hfree⟩ := hok
  obtain ⟨fm1, fm2⟩ := freesB_mem hfv
  have hnames : ∀ x ∈ sc.names, x.2 = .local → sc.names.lookup x.1 = some .local := fun x hx hl => by
    have := List.all_eq_true.mp hloc x hx
    rw [hl] at this
    simpa using this
  have evE : evF P (run P n) (.comp e t src cs fv) f σ = if fv.all (fun x => (lk x f.cel).isSome) then ((run P n).ev src f σ).bind fun s h => if isSrc h s then ((run P n).compL e t s cs 0 [] ⟨[], f.cel.filter fun p => fv.contains p.1, f.dep⟩ h).noEx.bind fun vs h => .ok (.ref h.length) (h ++ [.list vs]) else .no else .no := rfl
  rw [evE] at hout
  -- the closure
  by_cases hcl : fv.all (fun x => (lk x f.cel).isSome) = true
  · rw [if_pos hcl] at hout
    have hcell : ∀ y ∈ sc.names, y.2 = .free → (env.cells.lookup y.1).isSome = true := fun y hy hf => by
      obtain ⟨x, hx, hxn⟩ := fm2 y hy hf
      obtain ⟨n, hn⟩ := Option.isSome_iff_exists.mp (List.all_eq_true.mp hcl x hx)
      obtain ⟨z, q, e1, e2, e3⟩ := c.cel x n hn
      rw [hxn] at e1; cases e1
      rw [e3]; rfl
    have hrel : ∀ ρ', (∀ (n : Nat) p, ρ[n]? = some p → ρ'[n]? = some p) → CelRel ρ' (f.cel.filter fun p => fv.contains p.1) (cF env sc.names []) := fun ρ' hρ x k hk => by
      rw [lk_filter] at hk
      split at hk
      · rename_i hx
        obtain ⟨z, q, e1, e2, e3⟩ := c.cel x k hk
        obtain ⟨z', e1', hz⟩ := fm1 x (List.contains_iff_mem.mp hx)
        rw [e1] at e1'; cases e1'
        exact ⟨z, q, e1, hρ _ _ e2, cF_get env e3 _ _ (.inl hz)⟩
      · cases hk
    refine wpAny_comprehension_free (cl := cF env sc.names []) rfl (fun x => Ti.folded env x) (closure_ok hcell) hkind hnames (hr _ _ _ _ _ _ _ _ _ _ _ _ _ _ _ Ti γ Wn at_ c tk ?_)
    generalize hsrc : (run P n).ev src f σ = so at hout ⊢
    cases so with
    | no => subst hout; exact C.elim
    | ex cc mv σ' => subst hout; exact fun e s' x => C e s' x
    | ok v₁ σ₁ =>
      dsimp only [R.bind] at hout
      intro w₁ s₁ ρ₁ x₁ V₁ kt₁
      by_cases hsc : isSrc σ₁ v₁ = true
      · rw [if_pos hsc] at hout
        refine iter_start x₁.at_ V₁ hsc fun I h₂ x₂ nI SI₂ it₂ => ?_
        refine wpAny_newObj_type (T := "list") (data := .seq ([] : List Value).toArray) ?_ (by show (0 : Nat) ≤ sizeLine; exact Nat.zero_le _)
        simp only [newFunctionEnv, Option.isSome_some, if_true]
        refine wpAny_bind (wpAny_alloc (wpAny_bind ?_))
        obtain ⟨J, hIC, hDC, hDI⟩ := comp_frame (env := env) (dep := f.dep) x₂ SI₂ it₂
        refine cells_ok _ (fun name kind cells => by cases hkc : kind == NameKind.cell <;> simp [hkc]) sc.names [] _ _ _ (noCells hncell) J.aft.at_ (hrel ρ₁ fun zz zz e => x₁.ext.get e) fun s₅ ρ₅ cl₅ x₅ hc₅ kt₅ => ?_
        simp only [List.forIn_nil]
        refine wpAny_bind (wpAny_pure (wpAny_pure ?_))
        obtain ⟨aft, SI, SD, SC, ⟨hn, zz⟩, it, hl, htk⟩ := J.after x₅ kt₅
        have We : EnvOK X { scope := relabel sc env, locals := (h₂.push (W.listOf #[] 0)).objs.size, globals := env.globals, cells := cl₅, qual := env.qual, func := none, code := env.code, frame := env.frame, builtins := env.builtins } (kdIn sc kd) :=
          ⟨hkind, Wn.glob, fun x => kindOf_in Wn x, Wn.frame, Wn.bltn⟩
        generalize hcomp : (run P n).compL e t v₁ cs 0 [] ⟨[], f.cel.filter fun p => fv.contains p.1, f.dep⟩ σ₁ = co at hout
        clear J
        cases co with
        | no => subst hout; exact C.elim
        | ex cc mv σ' => subst hout; exact C.elim
        | ok vs σ' =>
          subst hout
          refine codeAny_compStart_list (?loop : _) (iter_self it ?loop)
          refine L_comp (f := ⟨[], f.cel.filter fun p => fv.contains p.1, f.dep⟩) (s₀ := s₁) (ρ₀ := ρ₁) (m := m) (outer := outer) (fenv := fenv) (n := n) hall Te Tt Tc We rfl γ hIC hDC hDI (om22 ‹_› ‹_›) (fun s₆ ρ₆ ws k x₆ SD₆ SC₆ hD₆ V₆ ns₆ kt₆ => ?_)
            ⟨hcomp, rfl, aft, SI, SD, SC, ⟨hn, hc₅⟩, it, hl, htk⟩
          obtain ⟨ρ', y, v, S⟩ := comp_fin x₁ hDC x₆ SD₆ SC₆ hD₆ V₆
          exact C h₂.objs.size _ s₆ _ y v S ns₆ (Nat.le_trans kt₁ kt₆)
      · rw [if_neg hsc] at hout; subst hout; exact C.elim
  · rw [if_neg hcl] at hout
    subst hout; exact C.elim
end
end Mine.Internal
end

section
open PySem PySem.W PyProof.Rows PySem.Calls PySem.SeqAt
set_option autoImplicit false
set_option maxRecDepth 100000
namespace Mine.Internal

variable {g : Pg} {P : Tab}

structure Tabs (g : Pg) (P : Tab) (K : Frag) (kOf : Nat → FuncData → Prop) : Prop where
  e : TabE g P K
  c : TabC P K
  f : TabF P K kOf
  d : TabD g P K
theorem Tabs.at (Y : Tabs g P g.K g.kOf) {A : Around} {X : Bx} {fenv : Env} {outer : List Env} {d : Nat} (γ : Gr g A X fenv outer d) : Tabs g P X.G.K X.kOf := by
  rw [γ.kk.1, γ.kk.2]; exact Y

theorem E_step (Y : Tabs g P g.K g.kOf) {n : Nat} (hall : ∀ k, k < n → SE g (run P k) ∧ ST g (run P k)) (hr : SE g (run P n)) (ht : ST g (run P n)) (hc : SC g (run P n)) : SE g (run P (n + 1)) := by
  intro t f σ kd e A X env fenv outer m s ρ Q E h γ W at_ c tk C
  change Cont X (fenv :: outer) m s ρ (evF P (run P n) t f σ) (fun h ρ v w => VR X.G h ρ v w) (fun w s' => s.toks ≤ s'.toks → Q w s') E at C
  have YX := Y.at γ
  refine wpAny_tkQ ?_
  generalize (fun (a : Value) (s' : Shared) => s.toks ≤ s'.toks → Q a s') = Q' at C ⊢
  clear Q
  cases t with
  | none =>
    obtain ⟨zz, zz, rfl⟩ := h.2
    exact E_none at_ C
  | bool =>
    obtain ⟨zz, zz, rfl⟩ := h.2
    exact E_bool at_ C
  | int =>
    obtain ⟨zz, zz, rfl⟩ := h.2
    exact E_int at_ C
  | str =>
    obtain ⟨zz, zz, zz, rfl, rfl⟩ := h.2
    exact E_str at_ C
  | var =>
    obtain ⟨zz, zz, rfl, hx, hk⟩ := h.2
    exact E_var hx hk W at_ c C
  | cell =>
    obtain ⟨zz, zz, rfl, hx, hk⟩ := h.2
    exact E_cell hx hk W at_ c C
  | glob =>
    obtain ⟨zz, zz, rfl, hx, hk⟩ := h.2
    exact E_glob YX.e hx hk W γ at_ C
  | bin =>
    obtain ⟨zz, zz, zz, zz, rfl, ho, ha, hb⟩ := h.2
    exact E_bin hr ho ha hb γ W at_ c tk C
  | neg =>
    obtain ⟨zz, zz, rfl, ha⟩ := h.2
    exact E_neg hr ha γ W at_ c tk C
  | not =>
    obtain ⟨zz, zz, rfl, ha⟩ := h.2
    exact E_not hr ha γ W at_ c tk C
  | and =>
    obtain ⟨zz, zz, rfl, hs⟩ := h.2
    exact E_ands hr γ W _ hs at_ c tk C
  | or =>
    obtain ⟨zz, zz, rfl, hs⟩ := h.2
    exact E_ors hr γ W _ hs at_ c tk C
  | ite =>
    obtain ⟨zz, zz, zz, zz, rfl, hc', ha, hb⟩ := h.2
    exact E_ite hr ht hc' ha hb γ W at_ c tk C
  | cmp =>
    obtain ⟨zz, zz, zz, zz, rfl, rfl, ha, hb⟩ := h.2
    exact E_cmp hr ha hb γ W at_ c tk C
  | cmp2 =>
    obtain ⟨zz, zz, zz, zz, zz, zz, rfl, rfl, rfl, ha, hb, hd⟩ := h.2
    exact E_cmp2 hr ha hb hd γ W at_ c tk C
  | tup =>
    obtain ⟨zz, zz, zz, rfl, hs, hl⟩ := h.2
    exact E_tup hr hs hl γ W at_ c tk C
  | lst =>
    obtain ⟨zz, zz, rfl, hs, hl⟩ := h.2
    exact E_lst hr hs hl γ W at_ c tk C
  | slice =>
    obtain ⟨zz, zz, zz, zz, zz, rfl, ha, hl, hh⟩ := h.2
    exact E_slice hr ha hl hh γ W at_ c tk C
  | idx =>
    obtain ⟨zz, zz, zz, rfl, hn, ha, hi⟩ := h.2
    exact E_idx hr hn ha hi γ W at_ c tk C
  | attr =>
    obtain ⟨zz, zz, zz, rfl, h0, hx, ha⟩ := h.2
    exact E_attr hr YX.c h0 hx ha γ W at_ c tk C
  | meth =>
    obtain ⟨zz, zz, zz, zz, zz, rfl, h0, hp, hx, ho, hs, hl⟩ := h.2
    exact E_meth hr hc YX.c YX.f YX.d h0 hp hx ho hs hl γ W at_ c tk C
  | bi =>
    obtain ⟨zz, zz, zz, zz, rfl, hk, hx, hs, hl⟩ := h.2
    exact E_bi (K := X.G.K) hr YX.e hk hx hs hl γ W at_ c tk C
  | call =>
    obtain ⟨zz, zz, zz, zz, rfl, hg, hs, hl⟩ := h.2
    exact E_call hr hc YX.f hg hs hl γ W at_ c tk C
  | repl =>
    obtain ⟨zz, zz, zz, zz, zz, zz, zz, zz, zz, rfl, h0, hp, ho, hx, rfl⟩ := h.2
    exact E_repl hr h0 hp ho hx γ W at_ c tk C
  | comp =>
    obtain ⟨zz, zz, zz, zz, zz, zz, rfl, hok, hfv, Tt, Ti, Te, Tc⟩ := h.2
    rw [eval_ListComp]
    refine comp_use hall hr hok hfv Tt Ti Te Tc γ W at_ c tk (use := none) rfl ?_
    generalize evF P (run P n) _ f σ = out at C ⊢
    cases out with
    | no => exact C
    | ex cc mv σ' => exact C
    | ok v σ' =>
      intro D Cc s' ρ' x V S ns k
      obtain ⟨mC, hn⟩ := ns
      refine ⟨mC, hn, fun h' hs => ?_⟩
      have kk := SameBut_k hs
      obtain ⟨ob, hb, hnv⟩ := S.obj
      exact C _ _ ρ' (x.side (tk := s'.toks) S kk) (vr_but hb hnv kk V)
end Mine.Internal
end

section
open PySem PySem.W PyProof.Rows PySem.Calls PySem.SeqAt
set_option autoImplicit false
set_option maxRecDepth 100000
namespace Mine.Internal

variable {g : Pg} {P : Tab} {r : Rec}

theorem notInter {env : Env} (h : env.scope.kind = .function) : interactive env = false := by
  unfold interactive; rw [h]; rfl
section
variable {A : Around} {X : Bx} {env : Env} {outer : List Env} {m : Str → Option Value} {s : Shared} {ρ : Rho} {σ : Hp} {f : Fr'} {kd : Kd} {E : Value → Shared → Prop} {Q : Flow → Shared → Prop}

theorem Assign_one {t e : Expr} {p : Pos} (hc : isComp e = false) (hw : swappedStores [t] e env = pure none) (hst : assignEach [t] env = [(false, assign t env)]) {M : Model}
    (h : wpAny M A (eval e env) (fun v s₁ => wpAny M A (assign t env v) (fun zz => Q .next) E s₁) E s) : wpAny M A (exec (.Assign [t] e p) env) Q E s := by
  rw [exec_Assign]
  refine wpAny_bind (wpAny_standAt ?_)
  have hs : swapsWithSole [t] e p.line env = pure false := swaps_plain hc _ _ _
  rw [hs]
  refine wpAny_bind (wpAny_pure ?_)
  rw [if_neg (by decide)]
  refine wpAny_bind (wpAny_mono h (fun v s₁ h₁ => ?_) fun zz zz x => x)
  rw [hw, hst]
  refine wpAny_bind (wpAny_pure ?_)
  show wpAny M A (do assignAll v [assign t env]; pure .next) Q E s₁
  exact wpAny_bind (wpAny_mono h₁ (fun zz zz x => wpAny_pure x) fun zz zz x => x)

theorem S_expr (hr : SE g r) {e : Expr} {p : Pos} {e' : T} (hc : isComp e = false) (h : TrE kd e e') (γ : Gr g A X env outer f.dep) (W : EnvOK X env kd) (at_ : At X m s ρ σ) (c : Loc X env m s.heap ρ f) (tk : 0 < s.toks)
    (C : ContS X (env :: outer) env f s ρ ((r.ev e' f σ).bind fun zz h => .ok (.next, f.loc) h) Q E) : wpAny (model g.prog g.w) A (exec (.Expr e p) env) Q E s :=
  wpAny_Expr_any (hr _ _ _ _ _ _ _ _ _ _ _ _ _ _ _ h γ W at_ c tk (C.bindE (RvA := VRc X) fun v σ₁ w s₁ ρ₁ zz x₁ V₁ C₁ k₁ => ContS.ok x₁.at_ C₁ rfl (c.after at_ x₁))) (notInter W.kind) (swaps_plain hc _ _ _)

theorem S_asg (hr : SE g r) {t e : Expr} {p : Pos} {t' : Tg} {e' : T} (hc : isComp e = false) (hw : swappedStores [t] e env = pure none) (ht : TrTg kd t t') (h : TrE kd e e') (γ : Gr g A X env outer f.dep) (W : EnvOK X env kd) (hL : env.locals = X.L) (at_ : At X m s ρ σ) (c : Loc X env m s.heap ρ f) (tk : 0 < s.toks)
    (C : ContS X (env :: outer) env f s ρ ((r.ev e' f σ).bind fun v h => match asgT f h t' v with
      | some (l, h) => .ok (.next, l) h
      | none => .no) Q E) : wpAny (model g.prog g.w) A (exec (.Assign [t] e p) env) Q E s := by
  refine Assign_one hc hw (ht.star [] env) (hr _ _ _ _ _ _ _ _ _ _ _ _ _ _ _ h γ W at_ c tk (C.bindE (RvA := VRc X) fun v σ₁ w s₁ ρ₁ zz x₁ V₁ C₁ k₁ => ?_))
  cases e1 : asgT f σ₁ t' v with
  | none => rw [e1] at C₁; exact C₁.elim
  | some lr =>
    obtain ⟨l, σ₂⟩ := lr
    rw [e1] at C₁
    exact asg_ok W hL γ.hh ht x₁.at_ (c.after at_ x₁) V₁ e1 fun m₂ s₂ st => C₁ .next s₂ ρ₁ m₂ st.after rfl st.loc

theorem S_asg2 (hr : SE g r) {x y : Str} {px py q₁ q₂ p : Pos} {k₁ k₂ : Nat} {a b : Expr} {i j : Nat} {a' b' : T} (hx : nm[i]? = some x) (hy : nm[j]? = some y) (hsw : swaps2 kd x y px py a b = true) (ha : TrE kd a a') (hb : TrE kd b b')
    (γ : Gr g A X env outer f.dep) (W : EnvOK X env kd) (hL : env.locals = X.L) (at_ : At X m s ρ σ) (c : Loc X env m s.heap ρ f) (tk : 0 < s.toks)
    (C : ContS X (env :: outer) env f s ρ ((r.ev a' f σ).bind fun a h => (r.ev b' f h).bind fun b h => .ok (.next, put i a (put j b f.loc)) h) Q E) :
    wpAny (model g.prog g.w) A (exec (.Assign [.Tuple [.Name x px, .Name y py] k₁ q₁] (.Tuple [a, b] k₂ q₂) p) env) Q E s := by
  unfold swaps2 at hsw
  obtain ⟨hsw, hst⟩ := Bool.and_eq_true_iff.mp hsw
  obtain ⟨hsw, hcn⟩ := Bool.and_eq_true_iff.mp hsw
  obtain ⟨hsw, hf⟩ := Bool.and_eq_true_iff.mp hsw
  obtain ⟨hsw, hne⟩ := Bool.and_eq_true_iff.mp hsw
  obtain ⟨hsw, hline⟩ := Bool.and_eq_true_iff.mp hsw
  obtain ⟨kx, ky⟩ := Bool.and_eq_true_iff.mp hsw
  have kx := eq_of_beq kx
  have ky := eq_of_beq ky
  have hline := eq_of_beq hline
  have hne : x ≠ y := bne_iff_ne.mp hne
  replace hst := Bool.not_eq_true' _ ▸ hst
  replace hf := Bool.not_eq_true' _ ▸ hf
  replace hcn := Bool.not_eq_true' _ ▸ hcn
  have hw : swappedStores [.Tuple [.Name x px, .Name y py] k₁ q₁] (.Tuple [a, b] k₂ q₂) env = pure (some [x, y]) := by
    unfold swappedStores
    have hbk : env.blockKind = .function := by unfold Env.blockKind; rw [W.kind]; rfl
    have e1 : (([a, b] : List Expr).any fun | .Starred .. => true | _ => false) = false := hst
    have e2 : ([x, y] : List Str).eraseDups.length = 2 := by
      have : (y == x) = false := beq_eq_false_iff_ne.mpr fun q => hne q.symm
      simp [List.eraseDups_cons, this]
    refine (if_neg (by rw [hbk]; exact Bool.noConfusion)).trans ((if_neg fun q => Bool.noConfusion (hst.symm.trans q)).trans ?_)
    have n1 : (if (env.kindOf x == some NameKind.local && px.line == px.line) = true then some x else none) = some x := if_pos (by rw [W.kd, kx]; exact beq_self_eq_true px.line)
    have n2 : (if (env.kindOf y == some NameKind.local && py.line == px.line) = true then some y else none) = some y := if_pos (by rw [W.kd, ky, hline]; exact beq_self_eq_true py.line)
    dsimp only
    generalize hN : List.filterMap _ [Expr.Name x px, Expr.Name y py] = N
    have hN : N = [x, y] := by
      rw [← hN]
      refine (List.filterMap_cons_some (b := x) ?_).trans (congrArg (x :: ·) ((List.filterMap_cons_some (b := y) ?_).trans rfl))
      · exact n1
      · exact n2
    subst hN
    rw [hf, hcn, e2]
    rfl
  refine Assign_Tuple_swapped (names := [x, y]) ?_ rfl hw
  refine wpAny_Tuple (wpAny_items_cons (hr _ _ _ _ _ _ _ _ _ _ _ _ _ _ _ ha γ W at_ c tk (C.bindE (RvA := VRc X) fun va σ₁ wa s₁ ρ₁ zz x₁ V₁ C₁ k₁ => ?_)) (ha.star _ _))
  refine wpAny_items_cons (hr _ _ _ _ _ _ _ _ _ _ _ _ _ _ _ hb γ W x₁.at_ (c.after at_ x₁) (om22 ‹_› ‹_›) (C₁.bindE (RvA := VRc X) fun vb σ₂ wb s₂ ρ₂ zz x₂ V₂ C₂ k₂ => ?_)) (hb.star _ _)
  refine wpAny_items_nil ⟨small_line (by show 2 < 20; decide), ?_⟩
  have Va := x₂.vr x₁.at_ V₁
  have x₃ : After X m s₂ ρ₂ { s₂ with heap := s₂.heap.push { cls := .type "tuple", data := .seq [wa, wb].toArray }, toks := s₂.toks } ρ₂ σ₂ := .keep x₂.at_ (x₂.at_.fr.push _) fun b o e zz => Heap.get?_push_of_some _ e
  refine unpackItems_tuple (items := [wa, wb].toArray) γ.hh ⟨_, Heap.get?_push_size _ rfl, rfl, _, rfl⟩ fun h₄ he => ?_
  have x₄ : After X m { s₂ with heap := s₂.heap.push { cls := .type "tuple", data := .seq [wa, wb].toArray } } ρ₂ { s₂ with heap := h₄, toks := s₂.toks } ρ₂ σ₂ :=
    .keep x₃.at_ (x₃.at_.fr.extBut he (Nat.le_refl _)) fun b o e' hb => he b o (Nat.ne_of_lt (Heap.lt_size e')) e'
  have x₃₄ := x₃.trans x₄
  have c₄ := ((c.after at_ x₁).after x₁.at_ x₂).after x₂.at_ x₃₄
  show wpAny _ A (do holding [wa] (bindName env y wb); assignInOrder [bindName env x] [wa]) _ E _
  refine wpAny_bind (wpAny_holding (bindName_ (store_name hy ky W hL x₃₄.at_ c₄ (x₃₄.vr x₂.at_ V₂) fun m₅ s₅ st₅ => ?_)))
  show wpAny _ A (do holding [] (bindName env x wa); assignInOrder [] []) _ E _
  refine wpAny_bind (wpAny_holding (bindName_ (store_name hx kx W hL st₅.after.at_ st₅.loc (st₅.after.vr x₃₄.at_ (x₃₄.vr x₂.at_ Va)) fun m₆ s₆ st₆ => wpAny_pure ?_)))
  have st := st₅.trans st₆
  exact C₂ .next s₆ ρ₂ m₆ (x₃₄.trans st.after) rfl st.loc

theorem S_ret (hr : SE g r) {e : Expr} {p : Pos} {e' : T} (h : TrE kd e e') (γ : Gr g A X env outer f.dep) (W : EnvOK X env kd) (at_ : At X m s ρ σ) (c : Loc X env m s.heap ρ f) (tk : 0 < s.toks)
    (C : ContS X (env :: outer) env f s ρ ((r.ev e' f σ).bind fun v h => .ok (.ret v, f.loc) h) Q E) : wpAny (model g.prog g.w) A (exec (.Return (some e) p) env) Q E s :=
  wpAny_Return_some (hr _ _ _ _ _ _ _ _ _ _ _ _ _ _ _ h γ W at_ c tk (C.bindE (RvA := VRc X) fun v σ₁ w s₁ ρ₁ zz x₁ V₁ C₁ k₁ => ContS.ok x₁.at_ C₁ ⟨w, rfl, V₁⟩ (c.after at_ x₁)))

theorem S_ife (ht : ST g r) (hx : SX g r) {cc : Expr} {a b : List Stmt} {p : Pos} {c' : T} {a' b' : List S} (hc : TrE kd cc c') (ha : TrSs kd a a') (hb : TrSs kd b b') (γ : Gr g A X env outer f.dep) (W : EnvOK X env kd) (hL : env.locals = X.L) (hE : PassesOwn (model g.prog g.w) A env E)
    (at_ : At X m s ρ σ) (c : Loc X env m s.heap ρ f) (tk : 0 < s.toks)
    (C : ContS X (env :: outer) env f s ρ ((tst r c' f σ).bind fun t h => if t then exs r a' f h else exs r b' f h) Q E) : wpAny (model g.prog g.w) A (exec (.If cc a b p) env) Q E s :=
  wpAny_If (ht _ _ _ _ _ _ _ _ _ _ _ _ _ _ _ hc γ W at_ c tk (C.bindE (RvA := fun zz zz b b' => b = b') fun v σ₁ w s₁ ρ₁ zz x₁ V₁ C₁ k₁ => by
    subst V₁
    cases v with
    | true => exact E_exs hx W hL hE ha γ x₁.at_ (c.after at_ x₁) (om22 ‹_› ‹_›) (ContS.mapQ C₁ fun zz zz x zz => x)
    | false => exact E_exs hx W hL hE hb γ x₁.at_ (c.after at_ x₁) (om22 ‹_› ‹_›) (ContS.mapQ C₁ fun zz zz x zz => x)))

theorem S_aug (hr : SE g r) {x : Str} {q p : Pos} {o : Operator} {e : Expr} {i : Nat} {o' : Bop} {e' : T} (hx : nm[i]? = some x) (hk : kd x = some .local) (ho : bopOf o = some o') (h : TrE kd e e') (γ : Gr g A X env outer f.dep) (W : EnvOK X env kd) (hL : env.locals = X.L)
    (at_ : At X m s ρ σ) (c : Loc X env m s.heap ρ f) (tk : 0 < s.toks)
    (C : ContS X (env :: outer) env f s ρ (exF P r (.aug i o' e') f σ) Q E) : wpAny (model g.prog g.w) A (exec (.AugAssign (.Name x q) o e p) env) Q E s := by
  unfold exF at C
  dsimp only at C
  obtain ⟨a, hl⟩ : ∃ a, lk i f.loc = some (.int a) := by
    cases q : lk i f.loc with
    | none => rw [q] at C; exact False.elim C
    | some v => cases v <;> first | exact ⟨_, rfl⟩ | (rw [q] at C; exact False.elim C)
  rw [hl] at C
  obtain ⟨z, w, e1, e2, e3⟩ := c.own hL i _ hl
  rw [hx] at e1; cases e1
  obtain ⟨t, rfl⟩ := e3
  refine wpAny_AugAssign_Name (wpAny_loadName_local W.kind ((W.kd _).trans hk) (hL ▸ at_.fr.ns) e2 (hr _ _ _ _ _ _ _ _ _ _ _ _ _ _ _ h γ W at_ c tk (C.bindE (RvA := VRc X) fun v σ₁ w s₁ ρ₁ zz x₁ V₁ C₁ k₁ => ?_)))
  cases o' with
  | add =>
    cases v <;> try exact C₁.elim
    have hadd : o = .Add := by cases o <;> first | rfl | exact nomatch ho
    subst hadd
    obtain ⟨u, rfl⟩ := V₁
    refine iadd_int ?_
    have x₂ := After.toks x₁.at_ (s₁.toks + 1)
    exact store_name hx hk W hL x₂.at_ ((c.after at_ x₁).after x₁.at_ x₂) (v := .int _) (⟨_, rfl⟩) fun m₃ s₃ st => C₁ .next s₃ ρ₁ m₃ (x₂.trans st.after) rfl st.loc
  | _ => exact C₁.elim
end
end Mine.Internal
end

section
open PySem PySem.W PyProof.Rows PySem.Calls PySem.SeqAt
set_option autoImplicit false
set_option maxRecDepth 100000
namespace Mine.Internal

variable {g : Pg} {P : Tab} {r : Rec}

theorem FRel.length {G : Gd} {h : Heap} {ρ : Rho} : ∀ {fs : List (Nat × V)} {es : List DictEntry}, FRel G h ρ fs es → fs.length = es.length
  | [], [], _ => rfl
  | (_, _) :: fs, _ :: es, x => congrArg (· + 1) (FRel.length x.2)
  | [], _ :: _, x => False.elim x
  | _ :: _, [], x => False.elim x
theorem FRel.put {G : Gd} {h : Heap} {ρ : Rho} {i : Nat} {x : Str} {v : V} {w : Value} {hsh : Int} {t : Tok} (hx : nm[i]? = some x) (hv : VR G h ρ v w) : ∀ {fs : List (Nat × V)} {es : List DictEntry}, FRel G h ρ fs es → FRel G h ρ (put i v fs) (putL x hsh (.str x t) w es)
  | [], [], _ => by
    exact ⟨⟨x, t, hx, rfl, hv⟩, trivial⟩
  | (y, u) :: fs, e :: es, r => by
    obtain ⟨⟨z, t', hz, hk, hu⟩, r⟩ := r
    rw [put_cons]
    unfold putL
    by_cases q : i = y
    · subst q
      rw [hx] at hz; cases hz
      rw [Nat.beq_refl, if_pos rfl, if_pos (by rw [hk, isStr_eq]; exact beq_self_eq_true _)]
      exact ⟨⟨x, t', hx, hk, hv⟩, r⟩
    · rw [beqN q, if_neg (by decide), if_neg (by
        rw [hk, isStr_eq]
        exact Bool.eq_false_iff.mp (str_bne fun z' => q (nm_inj hx (z' ▸ hz))))]
      exact ⟨⟨z, t', hz, hk, hu⟩, FRel.put hx hv r⟩
  | [], _ :: _, x => False.elim x
  | _ :: _, [], x => False.elim x
theorem putL_len {x : Str} {hsh : Int} {k w : Value} : ∀ {es : List DictEntry}, (putL x hsh k w es).length ≤ es.length + 1
  | [] => by simp [putL]
  | e :: es => by
    simp only [putL]
    split
    · simp
    · have := putL_len (x := x) (hsh := hsh) (k := k) (w := w) (es := es)
      simp only [List.length_cons]; exact Nat.succ_le_succ ‹_›
theorem upd_of {d : Addr} {o o' : Obj} : ∀ {l : List (Addr × Obj)}, (l.map (·.1)).Nodup → (d, o) ∈ l → ∃ l', Upd d o o' l l' ∧ (d, o') ∈ l' ∧ ∀ p ∈ l, p.1 ≠ d → p ∈ l'
  | [], _, h => nomatch h
  | (b, ob) :: l, hn, h => by
    obtain ⟨h1, h2⟩ := List.nodup_cons.mp hn
    rcases List.mem_cons.mp h with q | q
    · cases q
      refine ⟨(d, o') :: l, .head fun p hp e => h1 (List.mem_map.mpr ⟨p, hp, e⟩), .head _, fun p hp hd => ?_⟩
      rcases List.mem_cons.mp hp with rfl | hp
      · exact absurd rfl hd
      · exact .tail _ hp
    · obtain ⟨l', u, m', k⟩ := upd_of (o' := o') h2 q
      refine ⟨(b, ob) :: l', .tail (fun (e : b = d) => h1 (List.mem_map.mpr ⟨(d, o), q, e.symm⟩)) u, .tail _ m', fun p hp hd => ?_⟩
      rcases List.mem_cons.mp hp with rfl | hp
      · exact .head _
      · exact .tail _ (k p hp hd)

section
variable {A : Around} {X : Bx} {env : Env} {outer : List Env} {m : Str → Option Value} {s : Shared} {ρ : Rho} {σ : Hp} {f : Fr'} {kd : Kd} {E : Value → Shared → Prop} {Q : Flow → Shared → Prop}

theorem setIdx_inv {X : Bx} {l : List Env} {env : Env} {f : Fr'} {s : Shared} {ρ : Rho} {σ : Hp} {lo : List (Nat × V)} {v vo vi : V} {Q : Flow → Shared → Prop} {E : Value → Shared → Prop} (C : ContS X l env f s ρ (match vo, vi with
    | .ref k, .int i => match σ[k]? with
      | some (.list vs) => match seqPos vs.length i with
        | some j => if i.natAbs ≤ LIM then .ok (.next, lo) (σ.set k (.list (vs.set j v))) else .no
        | none => .no
      | _ => .no
    | _, _ => .no) Q E) : ∃ k z vs j, vo = .ref k ∧ vi = .int z ∧ σ[k]? = some (.list vs) ∧ seqPos vs.length z = some j ∧ z.natAbs ≤ LIM ∧ ContS X l env f s ρ (.ok (.next, lo) (σ.set k (.list (vs.set j v)))) Q E := by
  cases vo with
  | ref k =>
    cases vi with
    | int z =>
      dsimp only at C
      cases e : σ[k]? with
      | none => rw [e] at C; exact False.elim C
      | some o =>
        rw [e] at C
        cases o with
        | list vs =>
          dsimp only at C
          cases e1 : seqPos vs.length z with
          | none => rw [e1] at C; exact False.elim C
          | some j =>
            rw [e1] at C
            dsimp only at C
            by_cases q : z.natAbs ≤ LIM
            · rw [if_pos q] at C; exact ⟨k, z, vs, j, rfl, rfl, e, e1, q, C⟩
            · rw [if_neg q] at C; exact False.elim C
        | _ => exact False.elim C
    | _ => exact False.elim C
  | _ => exact False.elim C
theorem VRs.set {G : Gd} {h : Heap} {ρ : Rho} {v : V} {w : Value} (hv : VR G h ρ v w) {vs : List V} : ∀ {ws : List Value} (j : Nat), VRs G h ρ vs ws → VRs G h ρ (vs.set j v) (ws.set j w) := by
  induction vs with
  | nil => intro ws j z; obtain rfl := z.nil; exact z
  | cons a r ih =>
    intro ws j z
    obtain ⟨b, q, rfl, z1, z2⟩ := z.cons
    cases j with
    | zero => exact ⟨hv, z2⟩
    | succ j => exact ⟨z1, ih j z2⟩
theorem list_put {X : Bx} {m : Str → Option Value} {s : Shared} {ρ : Rho} {σ : Hp} {k j : Nat} {pp : Addr × Addr} {vs : List V} {v : V} {w : Value} {ws : Array Value} {h' : Heap} (a : At X m s ρ σ) (hp : ρ[k]? = some pp) (hq : pp.1 = pp.2) (rr : VRs X.G s.heap ρ vs ws.toList) (V1 : VR X.G s.heap ρ v w)
    (hs : Heap.SameBut pp.2 s.heap h') (ho' : ∃ n', h'.get? pp.2 = some (W.listOf (ws.setIfInBounds j w) n')) : After X m s ρ { s with heap := h', toks := s.toks } ρ (σ.set k (.list (vs.set j v))) := by
  have hnew := a.rel.new pp (List.mem_of_getElem? hp)
  refine .upd a ⟨a.fr.ns.sameBut hs (fun q => hnew.2 (q ▸ .head _)), fun b ob e => (hs.2 b (fun q => by rw [q, hnew.1] at e; cases e)).trans (a.fr.keep b ob e), a.fr.above⟩ hp (fun b ob e zz hb => (hs.2 b hb).trans e) fun y => ?_
  obtain ⟨n', ho'⟩ := ho'
  refine ⟨hq, _, n', ho', ?_⟩
  rw [Array.toList_setIfInBounds]
  exact VRs.set (y.vr a.rel V1) j (y.vrs a.rel rr)
theorem S_setIdx (hr : SE g r) {o i e : Expr} {q p : Pos} {o' i' e' : T} (hc : isComp e = false) (ho : TrE kd o o') (hi : TrE kd i i') (h : TrE kd e e') (γ : Gr g A X env outer f.dep) (We : EnvOK X env kd) (at_ : At X m s ρ σ) (c : Loc X env m s.heap ρ f) (tk : 0 < s.toks)
    (C : ContS X (env :: outer) env f s ρ ((r.ev e' f σ).bind fun v h => (r.ev o' f h).bind fun o h => (r.ev i' f h).bind fun i h => match o, i with
    | .ref k, .int i => match h[k]? with
      | some (.list vs) => match seqPos vs.length i with
        | some j => if i.natAbs ≤ LIM then .ok (.next, f.loc) (h.set k (.list (vs.set j v))) else .no
        | none => .no
      | _ => .no
    | _, _ => .no) Q E) : wpAny (model g.prog g.w) A (exec (.Assign [.Subscript o i q] e p) env) Q E s := by
  refine wpAny_Assign_Subscript (hr _ _ _ _ _ _ _ _ _ _ _ _ _ _ _ h γ We at_ c tk (C.bindE (RvA := VRc X) fun v σ₁ w s₁ ρ₁ e₁ x₁ V₁ C₁ k₁ =>
    hr _ _ _ _ _ _ _ _ _ _ _ _ _ _ _ ho γ We x₁.at_ (c.after at_ x₁) (om22 ‹_› ‹_›) (C₁.bindE (RvA := VRc X) fun vo σ₂ wo s₂ ρ₂ e₂ x₂ V₂ C₂ k₂ =>
      hr _ _ _ _ _ _ _ _ _ _ _ _ _ _ _ hi γ We x₂.at_ ((c.after at_ x₁).after x₁.at_ x₂) (om24 ‹_› ‹_› ‹_›) (C₂.bindE (RvA := VRc X) fun vi σ₃ wi s₃ ρ₃ e₃ x₃ V₃ C₃ k₃ => ?_)))) (swaps_plain hc _ _ _)
  have c₃ := ((c.after at_ x₁).after x₁.at_ x₂).after x₂.at_ x₃
  have V1 := x₃.vr x₂.at_ (x₂.vr x₁.at_ V₁)
  have V2 := x₃.vr x₂.at_ V₂
  clear e₁ e₂ e₃
  obtain ⟨k, z, vs, j, rfl, rfl, hn, hj, hlim, C⟩ := setIdx_inv C₃
  have a := x₃.at_
  obtain ⟨pp, hp, rfl⟩ := V2
  obtain ⟨u, rfl⟩ := V₃
  obtain ⟨hq, ws, n, hl, rr⟩ := a.rel.at hn hp
  rw [hq]
  have hlen : vs.length = ws.size := by have := rr.length; rwa [Array.length_toList] at this
  have fin : ∀ h', Heap.SameBut pp.2 s₃.heap h' → (∃ n', h'.get? pp.2 = some (W.listOf (ws.setIfInBounds j w) n')) → Q .next { s₃ with heap := h' } := fun h' hs ho' => by
    have x₄ := list_put a hp hq rr V1 hs ho'
    exact C .next _ ρ₃ m x₄ rfl (c₃.after a x₄)
  clear C C₁ C₂ C₃ V1 V₁ V₂ c₃
  obtain ⟨b1, b2⟩ := lim63 hlim
  unfold seqPos at hj
  by_cases h0 : 0 ≤ z
  · rw [if_pos h0] at hj
    obtain ⟨hlt, hj⟩ := if_some hj
    cases hj
    exact ki_setAt hl h0 b2 (by omega) (fin _ (Heap.SameBut.update ..) ⟨_, Heap.get?_update_self _ hl rfl⟩)
  · rw [if_neg h0] at hj
    obtain ⟨hge, hj⟩ := if_some hj
    cases hj
    rw [hlen] at fin
    exact ki_setBack hl (by omega) (by omega) b1 (fin _ (Heap.SameBut.update ..) ⟨_, Heap.get?_update_self _ hl rfl⟩)

theorem setAttr_inv {P : Tab} {X : Bx} {l : List Env} {env : Env} {f : Fr'} {s : Shared} {ρ : Rho} {σ : Hp} {lo : List (Nat × V)} {v vo : V} {i : Nat} {Q : Flow → Shared → Prop} {E : Value → Shared → Prop} (C : ContS X l env f s ρ (match vo with
    | .ref k => match σ[k]? with
      | some (.inst c fs) => if P.fld c i && decide (fs.length < 100) then .ok (.next, lo) (σ.set k (.inst c (put i v fs))) else .no
      | _ => .no
    | _ => .no) Q E) : ∃ k c fs, vo = .ref k ∧ σ[k]? = some (.inst c fs) ∧ P.fld c i = true ∧ fs.length < 100 ∧ ContS X l env f s ρ (.ok (.next, lo) (σ.set k (.inst c (put i v fs)))) Q E := by
  cases vo with
  | ref k =>
    dsimp only at C
    cases e : σ[k]? with
    | none => rw [e] at C; exact False.elim C
    | some o =>
      rw [e] at C
      cases o with
      | inst c fs =>
        dsimp only at C
        by_cases q : (P.fld c i && decide (fs.length < 100)) = true
        · rw [if_pos q] at C
          obtain ⟨q1, q2⟩ := Bool.and_eq_true_iff.mp q
          exact ⟨k, c, fs, rfl, e, q1, of_decide_eq_true q2, C⟩
        · rw [if_neg q] at C; exact False.elim C
      | _ => exact False.elim C
  | _ => exact False.elim C
theorem S_setAttr (hr : SE g r) (TC : TabC P X.G.K) {o e : Expr} {x : Str} {q p : Pos} {i : Nat} {o' e' : T} (hc : isComp e = false) (hx : nm[i]? = some x) (ho : TrE kd o o') (h : TrE kd e e') (γ : Gr g A X env outer f.dep) (We : EnvOK X env kd) (at_ : At X m s ρ σ) (c : Loc X env m s.heap ρ f) (tk : 0 < s.toks)
    (C : ContS X (env :: outer) env f s ρ ((r.ev e' f σ).bind fun v h => (r.ev o' f h).bind fun o h => match o with
    | .ref k => match h[k]? with
      | some (.inst c fs) => if P.fld c i && decide (fs.length < 100) then .ok (.next, f.loc) (h.set k (.inst c (put i v fs))) else .no
      | _ => .no
    | _ => .no) Q E) : wpAny (model g.prog g.w) A (exec (.Assign [.Attribute o x q] e p) env) Q E s := by
  refine plainObj_wpAny_Assign_Attribute (hr _ _ _ _ _ _ _ _ _ _ _ _ _ _ _ h γ We at_ c tk (C.bindE (RvA := VRc X) fun v σ₁ w s₁ ρ₁ e₁ x₁ V₁ C₁ k₁ =>
    hr _ _ _ _ _ _ _ _ _ _ _ _ _ _ _ ho γ We x₁.at_ (c.after at_ x₁) (om22 ‹_› ‹_›) (C₁.bindE (RvA := VRc X) fun vo σ₂ wo s₂ ρ₂ e₂ x₂ V₂ C₂ k₂ => ?_))) (swaps_plain hc _ _ _)
  have c₂ := (c.after at_ x₁).after x₁.at_ x₂
  have V1 := x₂.vr x₁.at_ V₁
  have a := x₂.at_
  clear e₁ e₂
  obtain ⟨k, cc, fs, rfl, hn, hf, hl, C⟩ := setAttr_inv C₂
  clear C₁ C₂
  obtain ⟨b, dx, es, n, rfl, hp, I, g1, g2, rr⟩ := a.inst hn V₂
  obtain ⟨z, hz, t1, t2, zz, t4, t5, t6⟩ := TC.fld _ _ hf
  rw [hx] at hz; cases hz
  have hnew := a.rel.new (b, dx) (List.mem_of_getElem? hp)
  have hmem : (dx, dictOf es n) ∈ own X.h₀ X.L s₂.heap := mem_own.mpr ⟨g2, fun q => hnew.2 (q ▸ .head _), hnew.1⟩
  obtain ⟨l', U, m', keep⟩ := upd_of (o' := dictOf (putL x (PyData.keyHash g.w.params x) (.str x (s₂.toks + 1)) w es) (putN x es n)) (own_nodup X.h₀ X.L s₂.heap) hmem
  refine set_dict a.fr γ.K (own_news _ _ _) I rfl t4 t5 t6 t2 ?_ rfl U ?_ fun h' F' N' => ?_
  · have q := rr.get hx
    cases q0 : lk i fs with
    | some u => rw [q0] at q; obtain ⟨w', q1, zz⟩ := q; rw [q1]; rfl
    | none => rw [q0] at q; rw [q]; rfl
  · have h1 := putL_len (x := x) (hsh := PyData.keyHash g.w.params x) (k := .str x (s₂.toks + 1)) (w := w) (es := es)
    have h2 := rr.length
    omega
  · have x₃ : After X m s₂ ρ₂ { s₂ with heap := h', toks := s₂.toks + 2 } ρ₂ (σ₂.set k (.inst cc (put i v fs))) := .upd a F' hp (fun b' ob e hL hb => by
        cases q : X.h₀.get? b' with
        | none => exact (N' (b', ob) (keep _ (mem_own.mpr ⟨e, hL, q⟩) hb)).1
        | some o' =>
          have := a.fr.keep _ _ q; rw [e] at this; cases this
          exact F'.keep _ _ q) fun y => by
      have hb2 : h'.get? b = some (instObj cc dx) := y.keep _ _ g1 (fun p hp' e => by
        obtain ⟨o', e', mo⟩ := a.rel.mut hp'
        rw [e, g1] at e'; cases e'
        exact mo.notPlain rfl) (fun q => by
        obtain ⟨o', e', es', n', d⟩ := a.rel.mutF _ q
        rw [g1] at e'; cases e'; cases d)
      exact ⟨hb2, _, _, (N' _ m').1, FRel.put hx (y.vr a.rel V1) (FRel.mono (fun zz zz z => y.vr a.rel z) _ _ rr)⟩
    exact C .next _ ρ₂ m x₃ rfl (c₂.after a x₃)

theorem isCompT_inv {e : T} (h : isCompT e = true) : ∃ a t b cs fv, e = .comp a t b cs fv := by
  cases e <;> first | exact no_true h | exact ⟨_, _, _, _, _, rfl⟩
theorem comp_inv {kd : Kd} {e : Expr} {gs : List Comprehension} {sc : Scope} {q' : Pos} {e' : T} (hc : isCompT e' = true) (h : TrE kd (.ListComp e gs sc q') e') :
    ∃ t it cs e₁ t₁ it₁ cs₁ fv, gs = [⟨t, it, cs, 0⟩] ∧ e' = .comp e₁ t₁ it₁ cs₁ fv ∧ compOk sc kd = true ∧ freesB sc.names fv = true ∧ TrTg (kdIn sc kd) t t₁ ∧ TrE kd it it₁ ∧ TrE (kdIn sc kd) e e₁ ∧ TrEs (kdIn sc kd) cs cs₁ := by
  obtain ⟨zz, zz, zz, zz, zz, rfl⟩ := isCompT_inv hc
  obtain ⟨zz, zz, zz, zz, zz, zz, q, h⟩ := h.2
  obtain ⟨rfl, qg, rfl, -⟩ := Expr.ListComp.inj q
  exact ⟨_, _, _, _, _, _, _, _, qg, rfl, h⟩

theorem S_asgC {n : Nat} (hall : ∀ k, k < n → SE g (run P k) ∧ ST g (run P k)) (hr : SE g (run P n)) {x : Str} {q q' p : Pos} {e : Expr} {gs : List Comprehension} {sc : Scope} {i : Nat} {e' : T} (hx : nm[i]? = some x) (hsw : swapsC kd x q (.ListComp e gs sc q') sc = true)
    (hc : isCompT e' = true) (h : TrE kd (.ListComp e gs sc q') e') (γ : Gr g A X env outer f.dep) (We : EnvOK X env kd) (hL : env.locals = X.L) (at_ : At X m s ρ σ) (c : Loc X env m s.heap ρ f) (tk : 0 < s.toks)
    (C : ContS X (env :: outer) env f s ρ ((evF P (run P n) e' f σ).bind fun v h => match asgT f h (.name i) v with
      | some (l, h) => .ok (.next, l) h
      | none => .no) Q E) : wpAny (model g.prog g.w) A (exec (.Assign [.Name x q] (.ListComp e gs sc q') p) env) Q E s := by
  unfold swapsC at hsw
  simp only [Bool.and_eq_true, beq_iff_eq, Bool.not_eq_true'] at hsw
  obtain ⟨⟨hk, hline⟩, hnames⟩ := hsw
  rw [exec_Assign]
  refine wpAny_bind (wpAny_standAt ?_)
  have hs : swapsWithSole [.Name x q] (.ListComp e gs sc q') p.line env = pure true := by
    show swapsWith (.ListComp e gs sc q') (some (.Name x q)) p.line env = pure true
    unfold swapsWith
    have hbk : env.blockKind = .function := by unfold Env.blockKind; rw [We.kind]; rfl
    simp only [pure_bind, hbk, We.kd, hk, hline]
    simp only [beq_self_eq_true, Bool.true_and]
    rw [hnames]; rfl
  rw [hs]
  refine wpAny_bind (wpAny_pure ?_)
  rw [if_pos rfl]
  obtain ⟨t, it, cs, e₁, t₁, it₁, cs₁, fv, rfl, rfl, hok, hfv, Tt, Ti, Te, Tc⟩ := comp_inv hc h
  · rw [arm_evalThenUse_ListComp]
    have st1 : assignEach [.Name x q] env = [(false, assign (.Name x q) env)] := rfl
    rw [st1]
    refine wpAny_bind (wpAny_bind (wpAny_mono (comp_use hall hr hok hfv Tt Ti Te Tc γ We at_ c tk (use := some fun v => assignAll v [assign (.Name x q) env]) (Q := fun zz s' => Q .next s') rfl ?_) (fun zz s' hq => wpAny_pure (wpAny_pure hq)) fun zz zz z => z))
    generalize evF P (run P n) (.comp e₁ t₁ it₁ cs₁ fv) f σ = out at C ⊢
    cases out with
    | no => exact C.elim
    | ex cc mv σ' => exact fun e s' x => C e s' m (.inl x)
    | ok v σ' =>
      dsimp only [R.bind] at C
      intro D Cc s' ρ' x' V S ns k
      show wpAny _ A (assignAll (.ref D) [assign (.Name x q) env]) _ E s'
      obtain ⟨mC, hn⟩ := ns
      change wpAny _ A (assign (.Name x q) env (.ref D)) _ E s'
      refine assign_Name (store_name hx hk We hL x'.at_ (c.after at_ x') V fun m₂ s₂ st => ?_)
      obtain ⟨S₂, kC⟩ := S.after st.after
      refine ⟨mC, ns_of_get hn kC, fun h' hs' => ?_⟩
      have kk := SameBut_k hs'
      have x₃ := (x'.trans st.after).side (tk := s₂.toks) S₂ kk
      refine C .next _ ρ' m₂ x₃ rfl ?_
      obtain ⟨ob, hob, hnv⟩ := S₂.obj
      refine ⟨⟨m₂, .inl ⟨hL, rfl⟩, fun y u e => ?_⟩, st.loc.cel⟩
      obtain ⟨z, w, b1, b2, b3⟩ := st.loc.own hL y u e
      exact ⟨z, w, b1, b2, vr_but hob hnv kk b3⟩
end
end Mine.Internal
end

section
open PySem PySem.W PyProof.Rows PySem.Calls PySem.SeqAt
set_option autoImplicit false
set_option maxRecDepth 100000
namespace Mine.Internal

variable {g : Pg} {P : Tab}

section
variable {A : Around} {X : Bx} {env : Env} {outer : List Env} {m : Str → Option Value} {s : Shared} {ρ : Rho} {σ : Hp} {f : Fr'} {kd : Kd} {E : Value → Shared → Prop} {Q : Flow → Shared → Prop}

noncomputable def LoopEnd (M : Model) (A : Around) (env : Env) (Q : Flow → Shared → Prop) (E : Value → Shared → Prop) : Result → Shared → Prop := fun r s' => match r with | .ok f => Q f s' | .error e => cameBackBy M A env E e s'

structure WSt (P : Tab) (X : Bx) (env : Env) (f : Fr') (s₀ : Shared) (ρ₀ : Rho) (out : R (Fl × List (Nat × V))) (c : T) (b : List S) (j : Nat) (s : Shared) (l : List (Nat × V)) (σ : Hp) (ρ : Rho) (m : Str → Option Value) : Prop where
  out : (run P j).ex (.while c b) ⟨l, f.cel, f.dep⟩ σ = out
  aft : After X m s₀ ρ₀ s ρ σ
  loc : Loc X env m s.heap ρ ⟨l, f.cel, f.dep⟩
  toks : s₀.toks ≤ s.toks

noncomputable def BodyQ (J : Nat → Shared → Prop) (Q : Flow → Shared → Prop) (j : Nat) : Flow → Shared → Prop := fun f s => match f with
  | .next | .cont => ∃ m, m < j ∧ J m s
  | .brk => Q .next s
  | .ret v => Q (.ret v) s
noncomputable def ForQ (M : Model) (A : Around) (target : Expr) (it : Value) (body : List Stmt) (env : Env) (J : Nat → Shared → Prop) (Q : Flow → Shared → Prop) (E : Value → Shared → Prop) (j : Nat) : Option Value → Shared → Prop := fun r s => match r with
  | none => Q .next s
  | some v => wpAny M A (letOwnedTupleGo target it v) (fun zz s => wpAny M A (assign target env v) (fun zz s => wpAny M A (execs body env) (BodyQ J Q j) E s) E s) E s
theorem forLoop_go {target : Expr} {it : Value} {body : List Stmt} {prog : Program} {w : World} (hE : PassesOwn (model prog w) A env E) (J : Nat → Shared → Prop) (turn : ∀ j s, J j s → wpAny (model prog w) A (pyNext it) (ForQ (model prog w) A target it body env J Q E j) E s) (n : Nat) (h : J n s) :
    codeAny (model prog w) A (.forLoop target it body [] env) (LoopEnd (model prog w) A env Q E) s := by
  refine codeAny_forLoop_any (R := LoopEnd (model prog w) A env Q E) J (fun j s hJ => wpAny_passesOwn hE (wpAny_mono (turn j s hJ) (fun r s h => ?_) fun zz zz x => x)) n h
  cases r with
  | none => exact wpAny_execs_nil h
  | some v => exact wpAny_passesOwn hE (wpAny_mono h (fun zz s h => wpAny_passesOwn hE (wpAny_mono h (fun zz s h => wpAny_passesOwn hE (wpAny_mono h (fun f s h => by cases f <;> exact h) fun zz zz x => x)) fun zz zz x => x)) fun zz zz x => x)
noncomputable def after (nx : List (Nat × V) → Hp → R (Fl × List (Nat × V))) : Fl × List (Nat × V) → Hp → R (Fl × List (Nat × V)) := fun p h => match p.1 with
  | .next | .cont => nx p.2 h
  | .brk => .ok (.next, p.2) h
  | .ret v => .ok (.ret v, p.2) h
theorem body_go {r : Rec} (hx : SX g r) {b : List Stmt} {b' : List S} (hb : TrSs kd b b') (γ : Gr g A X env outer f.dep) (W : EnvOK X env kd) (hL : env.locals = X.L) (hE : PassesOwn (model g.prog g.w) A env E) {s₀ : Shared} {ρ₀ : Rho} {l : List (Nat × V)} {j : Nat} {J : Nat → Shared → Prop}
    {nx : List (Nat × V) → Hp → R (Fl × List (Nat × V))} (aft : After X m s₀ ρ₀ s ρ σ) (lc : Loc X env m s.heap ρ ⟨l, f.cel, f.dep⟩) (tk : 0 < s.toks) {out : R (Fl × List (Nat × V))} (C : ContS X (env :: outer) env f s₀ ρ₀ out Q E)
    (ho : (exs r b' ⟨l, f.cel, f.dep⟩ σ).bind (after nx) = out) (hJ : ∀ {lo σ' s' ρ' m'}, nx lo σ' = out → After X m' s ρ s' ρ' σ' → Loc X env m' s'.heap ρ' ⟨lo, f.cel, f.dep⟩ → s.toks ≤ s'.toks → J j s') : wpAny (model g.prog g.w) A (execs b env) (BodyQ J Q (j + 1)) E s := by
  have C₁ : ContS X (env :: outer) env ⟨l, f.cel, f.dep⟩ s ρ out Q E := by
    have := ContS.after (f := f) aft C
    cases out <;> exact this
  clear C
  rw [← ho] at C₁
  refine E_exs (f := ⟨l, f.cel, f.dep⟩) hx W hL hE hb γ aft.at_ lc tk (ContS.bind C₁ fun fl lo σ' w s' ρ' m' e x y c C k => ?_)
  clear C₁
  rw [e] at ho
  cases fl with
  | next => cases y; exact ⟨j, Nat.lt_succ_self _, hJ ho x c k⟩
  | cont => cases y; exact ⟨j, Nat.lt_succ_self _, hJ ho x c k⟩
  | brk => cases y; exact (ContS.ok (w := .next) x.at_ C rfl c : Q .next s')
  | ret v => obtain ⟨z, rfl, y⟩ := y; exact (ContS.ok (w := .ret z) x.at_ C ⟨z, rfl, y⟩ c : Q (.ret z) s')

theorem while_turn {j : Nat} {r : Rec} (ht : ST g r) (hx : SX g r) {c : Expr} {b : List Stmt} {c' : T} {b' : List S} (hc : TrE kd c c') (hb : TrSs kd b b') (γ : Gr g A X env outer f.dep) (W : EnvOK X env kd) (hL : env.locals = X.L) (hE : PassesOwn (model g.prog g.w) A env E)
    {s₀ : Shared} {ρ₀ : Rho} (tk : 0 < s.toks) {l : List (Nat × V)} {J : Nat → Shared → Prop} {nx : List (Nat × V) → Hp → R (Fl × List (Nat × V))} (aft : After X m s₀ ρ₀ s ρ σ) (lc : Loc X env m s.heap ρ ⟨l, f.cel, f.dep⟩) {out : R (Fl × List (Nat × V))} (C : ContS X (env :: outer) env f s₀ ρ₀ out Q E)
    (ho : ((tst r c' ⟨l, f.cel, f.dep⟩ σ).bind fun t h => if t then (exs r b' ⟨l, f.cel, f.dep⟩ h).bind (after nx) else .ok (.next, l) h) = out) (hJ : ∀ {lo σ' s' ρ' m'}, nx lo σ' = out → After X m' s₀ ρ₀ s' ρ' σ' → Loc X env m' s'.heap ρ' ⟨lo, f.cel, f.dep⟩ → s.toks ≤ s'.toks → J j s') :
    wpAny (model g.prog g.w) A (isTrue c env (eval c env)) (fun b₁ s => if b₁ then wpAny (model g.prog g.w) A (execs b env) (BodyQ J Q (j + 1)) E s else Q .next s) E s := by
  have C₁ : ContS X (env :: outer) env ⟨l, f.cel, f.dep⟩ s ρ out Q E := by
    have := ContS.after (f := f) aft C
    cases out <;> exact this
  rw [← ho] at C₁
  refine ht _ ⟨l, f.cel, f.dep⟩ _ _ _ _ _ _ _ _ _ _ _ _ _ hc γ W aft.at_ lc tk (C₁.bindE (RvA := fun zz zz b b' => b = b') fun t σ₂ t' s₂ ρ₂ e₂ x₂ V₂ C₂ k₂ => ?_)
  subst V₂
  clear C₁
  rw [e₂] at ho
  have lc₂ := lc.after aft.at_ x₂
  cases t with
  | false => exact ContS.ok x₂.at_ C₂ rfl lc₂
  | true => exact body_go hx hb γ W hL hE (aft.trans x₂) lc₂ (Nat.lt_of_lt_of_le tk k₂) C ho fun e x c k => hJ e ((aft.trans x₂).trans x) c (Nat.le_trans k₂ k)
theorem S_while {n : Nat} (hall : ∀ k, k < n → ST g (run P k) ∧ SX g (run P k)) {c : Expr} {b : List Stmt} {p : Pos} {c' : T} {b' : List S} (hc : TrE kd c c') (hb : TrSs kd b b') (γ : Gr g A X env outer f.dep) (W : EnvOK X env kd) (hL : env.locals = X.L) (hE : PassesOwn (model g.prog g.w) A env E)
    (at_ : At X m s ρ σ) (lc : Loc X env m s.heap ρ f) (tk : 0 < s.toks) (C : ContS X (env :: outer) env f s ρ ((run P n).ex (.while c' b') f σ) Q E) : wpAny (model g.prog g.w) A (exec (.While c b [] p) env) Q E s := by
  generalize hout : (run P n).ex (.while c' b') f σ = out at C
  refine wpAny_While (codeAny_whileLoop (R := LoopEnd (model g.prog g.w) A env Q E) (fun j s' => j ≤ n ∧ ∃ l σ' ρ' m', WSt P X env f s ρ out c' b' j s' l σ' ρ' m') (fun j s₁ => ?_) n ⟨Nat.le_refl _, f.loc, σ, ρ, m, hout, .refl at_, lc, Nat.le_refl _⟩)
  intro h
  obtain ⟨hj, l, σ₁, ρ₁, m₁, st⟩ := h
  cases j with
  | zero => cases st.out; exact C.elim
  | succ j =>
    refine wpAny_passesOwn hE (wpAny_mono (while_turn (j := j) (nx := fun lo h => (run P j).ex (.while c' b') ⟨lo, f.cel, f.dep⟩ h) (J := fun j s' => j ≤ n ∧ ∃ l σ' ρ' m', WSt P X env f s ρ out c' b' j s' l σ' ρ' m') (hall j hj).1 (hall j hj).2 hc hb γ W hL hE (Nat.lt_of_lt_of_le tk st.toks) st.aft st.loc C st.out fun e x c k => ?_) (fun b₁ s h => ?_) fun zz zz x => x)
    · exact ⟨Nat.le_of_succ_le hj, _, _, _, _, e, x, c, Nat.le_trans st.toks k⟩
    · cases b₁ with
      | false => exact wpAny_execs_nil h
      | true => exact wpAny_passesOwn hE (wpAny_mono h (fun f s h => by cases f <;> exact h) fun zz zz x => x)

structure FSt (P : Tab) (X : Bx) (env : Env) (f : Fr') (s₀ : Shared) (ρ₀ : Rho) (out : R (Fl × List (Nat × V))) (t : Tg) (src : V) (b : List S) (I : Addr) (j i : Nat) (s : Shared) (l : List (Nat × V)) (σ : Hp) (ρ : Rho) (m : Str → Option Value) : Prop where
  out : (run P j).forL t src i b ⟨l, f.cel, f.dep⟩ σ = out
  aft : After X m s₀ ρ₀ s ρ σ
  loc : Loc X env m s.heap ρ ⟨l, f.cel, f.dep⟩
  toks : s₀.toks ≤ s.toks
  side : Side X s₀ ρ s.heap I
  it : ItR s.heap ρ I i src

theorem Loc.but {X : Bx} {env : Env} {m : Str → Option Value} {s₀ : Shared} {h h' : Heap} {ρ : Rho} {f : Fr'} {I : Addr} (c : Loc X env m h ρ f) (hL : env.locals = X.L) (S : Side X s₀ ρ h I) (k : ∀ c o, c ≠ I → h.get? c = some o → h'.get? c = some o) : Loc X env m h' ρ f := by
  obtain ⟨ob, hb, hn⟩ := S.obj
  refine ⟨⟨m, .inl ⟨hL, rfl⟩, fun x v e => ?_⟩, c.cel⟩
  obtain ⟨z, w, e1, e2, e3⟩ := Loc.own (s := { s₀ with heap := h }) c hL x v e
  exact ⟨z, w, e1, e2, vr_but hb hn k e3⟩

theorem for_turn {r : Rec} {j : Nat} (hx : SX g r) {target : Expr} {b : List Stmt} {t : Tg} {b' : List S} (ht : TrTg kd target t) (hb : TrSs kd b b') (γ : Gr g A X env outer f.dep) (W : EnvOK X env kd) (hL : env.locals = X.L) (hE : PassesOwn (model g.prog g.w) A env E)
    {s₀ : Shared} {ρ₀ : Rho} (tk : 0 < s₀.toks) {out : R (Fl × List (Nat × V))} (C : ContS X (env :: outer) env f s₀ ρ₀ out Q E) {src : V} {I : Addr} {i : Nat} {l : List (Nat × V)} {J : Nat → Shared → Prop}
    (aft : After X m s₀ ρ₀ s ρ σ) (lc : Loc X env m s.heap ρ ⟨l, f.cel, f.dep⟩) (tks : s₀.toks ≤ s.toks) (side : Side X s₀ ρ s.heap I) (it : ItR s.heap ρ I i src) (ho : forF r t src i b' ⟨l, f.cel, f.dep⟩ σ = out)
    (hJ : ∀ {lo σ' s' ρ' m'}, r.forL t src (i + 1) b' ⟨lo, f.cel, f.dep⟩ σ' = out → After X m' s₀ ρ₀ s' ρ' σ' → Loc X env m' s'.heap ρ' ⟨lo, f.cel, f.dep⟩ → s₀.toks ≤ s'.toks → Side X s₀ ρ' s'.heap I → ItR s'.heap ρ' I (i + 1) src → J j s') :
    wpAny (model g.prog g.w) A (pyNext (.ref I)) (ForQ (model g.prog g.w) A target (.ref I) b env J Q E (j + 1)) E s := by
  unfold forF at ho
  cases hs : srcAt σ i src with
  | none => rw [hs] at ho; cases ho; exact C.elim
  | some o =>
    rw [hs] at ho
    cases o with
    | none =>
      cases ho
      exact iter_done aft.at_ γ.hh aft side it hs fun h₂ k₂ x₂ => C .next _ ρ m x₂ rfl (lc.but hL side k₂)
    | some v =>
      refine iter_item aft.at_ aft side it hs fun w h₂ tk₂ k₂ kt₂ x₂ S₂ it₂ V₂ => iter_own it₂ ?_
      dsimp only at ho
      cases hasg : asgT ⟨l, f.cel, f.dep⟩ σ t v with
      | none => rw [hasg] at ho; cases ho; exact C.elim
      | some q =>
        rw [hasg] at ho
        refine asg_ok (m := m) (s := { s with heap := h₂, toks := tk₂ }) W hL γ.hh ht x₂.at_ (lc.but hL side k₂) V₂ hasg fun m₃ s₃ st₃ => ?_
        obtain ⟨S₃, kI₃⟩ := Side.after (s := { s with heap := h₂, toks := tk₂ }) S₂ st₃.after
        have tk₃ : s₀.toks ≤ s₃.toks := Nat.le_trans tks (Nat.le_trans kt₂ st₃.toks)
        refine body_go hx hb γ W hL hE (x₂.trans st₃.after) st₃.loc (Nat.lt_of_lt_of_le tk tk₃) C (nx := fun lo h => r.forL t src (i + 1) b' ⟨lo, f.cel, f.dep⟩ h) ho fun e x c k => ?_
        obtain ⟨S₄, kI₄⟩ := S₃.after x
        exact hJ e ((x₂.trans st₃.after).trans x) c (Nat.le_trans tk₃ k) S₄ ((it₂.move kI₃ fun zz zz e => st₃.after.ext.get e).move kI₄ fun zz zz e => x.ext.get e)
theorem L_for {n : Nat} (hall : ∀ k, k < n → SX g (run P k)) {target : Expr} {b : List Stmt} {t : Tg} {b' : List S} (ht : TrTg kd target t) (hb : TrSs kd b b') (γ : Gr g A X env outer f.dep) (W : EnvOK X env kd) (hL : env.locals = X.L) (hE : PassesOwn (model g.prog g.w) A env E)
    {s₀ : Shared} {ρ₀ : Rho} (tk : 0 < s₀.toks) {out : R (Fl × List (Nat × V))} (C : ContS X (env :: outer) env f s₀ ρ₀ out Q E) {src : V} {I : Addr} {i : Nat} {l : List (Nat × V)} (st : FSt P X env f s₀ ρ₀ out t src b' I n i s l σ ρ m) :
    codeAny (model g.prog g.w) A (.forLoop target (.ref I) b [] env) (LoopEnd (model g.prog g.w) A env Q E) s := by
  refine forLoop_go hE (fun j s' => j ≤ n ∧ ∃ i l σ' ρ' m', FSt P X env f s₀ ρ₀ out t src b' I j i s' l σ' ρ' m') (fun j s₁ => ?_) n ⟨Nat.le_refl _, i, l, σ, ρ, m, st⟩
  generalize hJ : (fun j s' => j ≤ n ∧ ∃ i l σ' ρ' m', FSt P X env f s₀ ρ₀ out t src b' I j i s' l σ' ρ' m') = J
  intro h
  obtain ⟨hj, i, l, σ₁, ρ₁, m₁, st⟩ := h
  cases j with
  | zero => cases st.out; exact C.elim
  | succ j =>
    refine for_turn (hall j hj) ht hb γ W hL hE tk C st.aft st.loc st.toks st.side st.it st.out fun e x c k S it => ?_
    rw [← hJ]; exact ⟨Nat.le_of_succ_le hj, _, _, _, _, _, e, x, c, k, S, it⟩

theorem S_for {n : Nat} (hall : ∀ k, k < n → SX g (run P k)) (hr : SE g (run P n)) {target it : Expr} {b : List Stmt} {p : Pos} {t : Tg} {e' : T} {b' : List S} (ht : TrTg kd target t) (he : TrE kd it e') (hb : TrSs kd b b') (γ : Gr g A X env outer f.dep) (W : EnvOK X env kd) (hL : env.locals = X.L) (hE : PassesOwn (model g.prog g.w) A env E)
    (at_ : At X m s ρ σ) (lc : Loc X env m s.heap ρ f) (tk : 0 < s.toks) (C : ContS X (env :: outer) env f s ρ (((run P n).ev e' f σ).bind fun v h => if isSrc h v then (run P n).forL t v 0 b' f h else .no) Q E) : wpAny (model g.prog g.w) A (exec (.For target it b [] p) env) Q E s := by
  refine wpAny_For (hr _ _ _ _ _ _ _ _ _ _ _ _ _ _ _ he γ W at_ lc tk (C.bindE (RvA := VRc X) fun v σ₁ w s₁ ρ₁ zz x₁ V₁ C₁ k₁ => ?_)) (fun x => he.folded env x)
  split at C₁
  · rename_i hs
    refine iter_start x₁.at_ V₁ hs fun I h₂ x₂ nI S₂ it₂ => ?_
    have lc₁ := lc.after at_ x₁
    generalize hout : (run P n).forL t v 0 b' f σ₁ = out at C₁
    have lc₂ := lc₁.after x₁.at_ x₂
    exact L_for (f := f) (s₀ := s₁) (ρ₀ := ρ₁) hall ht hb γ W hL hE (om22 ‹_› ‹_›) C₁ ⟨hout, x₂, lc₂, Nat.le_refl _, S₂, it₂⟩
  · exact C₁.elim
end
end Mine.Internal
end

section
open PySem PySem.W PyProof.Rows PySem.Calls PySem.SeqAt
set_option autoImplicit false
set_option maxRecDepth 100000
namespace Mine.Internal

variable {g : Pg} {P : Tab}

section
variable {X : Bx} {m m' : Str → Option Value} {s₀ s s' : Shared} {ρ₀ ρ ρ' : Rho} {σ₀ σ σ' : Hp} {h h' : Heap}

structure Stay (X : Bx) (s₀ : Shared) (ρ : Rho) (h : Heap) (b : Addr) : Prop where
  base : X.h₀.get? b = none
  new : s₀.heap.get? b = none
  fa : b ∉ X.fa
  rho : ∀ p ∈ ρ, p.2 ≠ b
  obj : ∃ o, h.get? b = some o

theorem Stay.after {b : Addr} (S : Stay X s₀ ρ s.heap b) (x : After X m s ρ s' ρ' σ') : Stay X s₀ ρ' s'.heap b ∧ ∀ o, s.heap.get? b = some o → s'.heap.get? b = some o := by
  obtain ⟨o, ho⟩ := S.obj
  have k : ∀ o, s.heap.get? b = some o → s'.heap.get? b = some o := fun o e => x.ext.keep b o e S.rho S.fa
  refine ⟨⟨S.base, S.new, S.fa, fun p hp => ?_, o, k _ ho⟩, k⟩
  obtain ⟨t, e, ht⟩ := x.ext.pre
  rw [e] at hp
  rcases List.mem_append.mp hp with hp | hp
  · exact S.rho p hp
  · intro q; have := ht p hp; rw [q, ho] at this; cases this
theorem Stay.mv {b : Addr} {o : Obj} (S : Stay X s₀ ρ h b) (e : h'.get? b = some o) : Stay X s₀ ρ h' b := ⟨S.base, S.new, S.fa, S.rho, o, e⟩
theorem Stay.made {b : Addr} {o : Obj} (a : At X m s ρ σ) (x : After X m' s₀ ρ₀ s ρ σ) (hb : s.heap.get? b = none) (e : h'.get? b = some o) : Stay X s₀ ρ h' b := by
  refine ⟨?_, ?_, fun q => ?_, fun p hp q => ?_, o, e⟩
  · cases q : X.h₀.get? b with
    | none => rfl
    | some o => rw [a.fr.keep _ _ q] at hb; cases hb
  · cases q : s₀.heap.get? b with
    | none => rfl
    | some o =>
      exfalso
      by_cases h1 : b ∈ X.fa
      · obtain ⟨o, e, zz⟩ := a.rel.mutF _ h1
        rw [hb] at e; cases e
      · by_cases h2 : ∀ p ∈ ρ₀, p.2 ≠ b
        · have := x.ext.keep _ _ q h2 h1; rw [hb] at this; cases this
        · obtain ⟨p, h3⟩ := Classical.not_forall.mp h2
          obtain ⟨h3, h4⟩ := Classical.not_imp.mp h3
          obtain ⟨o', e', zz⟩ := a.rel.mut (x.ext.mem h3)
          rw [Classical.not_not.mp h4, hb] at e'; cases e'
  · obtain ⟨o, e, zz⟩ := a.rel.mutF _ q
    rw [hb] at e; cases e
  · obtain ⟨o, e, zz⟩ := a.rel.mut hp
    rw [q, hb] at e; cases e

theorem After.aside {B : Addr → Prop} {tk : Nat} (x : After X m s₀ ρ₀ s ρ σ) (hB : ∀ b, B b → Aside X.G s.heap b) (hS : ∀ b, B b → Stay X s₀ ρ s.heap b) (hE : ∀ b, B b → X.G.bad b → ∃ o, h'.get? b = some o)
    (k : ∀ c o, ¬ B c → s.heap.get? c = some o → h'.get? c = some o) : After X m s₀ ρ₀ { s with heap := h', toks := tk } ρ σ := by
  have a := x.at_
  have nf : ∀ c ∈ X.fa, ¬ B c := fun c hc q => (hS c q).fa hc
  obtain ⟨hh, tt, e0⟩ := x.eq
  have k0 : ∀ c o, X.h₀.get? c = some o → h'.get? c = some o := fun c o e => k c o (fun q => by rw [(hS c q).base] at e; cases e) (a.fr.keep c o e)
  have ns : h'.Ns X.L m := by
    obtain ⟨o, es, n, e, d, rr⟩ := a.fr.ns
    exact ⟨o, es, n, k _ _ (nf _ (.head _)) e, d, rr⟩
  have bd : ∀ c, X.G.bad c → X.h₀.get? c = none ∧ ∃ o, h'.get? c = some o := fun c hc => by
    obtain ⟨h1, o, e⟩ := a.bad c hc
    refine ⟨h1, ?_⟩
    by_cases q : B c
    · exact hE c q hc
    · exact ⟨o, k c o q e⟩
  refine ⟨⟨h', tk, by rw [e0]⟩, ⟨⟨ns, k0, a.fr.above⟩, ⟨a.rel.len, fun n o e => ?_, a.rel.new, a.rel.nod, fun c hc => ?_⟩, fun q hq => ?_, a.apart, bd⟩, ⟨x.ext.pre, fun c o e h1 h2 => k c o (fun q => by rw [(hS c q).new] at e; cases e) (x.ext.keep c o e h1 h2)⟩⟩
  · obtain ⟨p, hp, ho⟩ := a.rel.obj n o e
    exact ⟨p, hp, ho.aside hB k fun q => (hS _ q).rho p (List.mem_of_getElem? hp) rfl⟩
  · obtain ⟨o, e, d⟩ := a.rel.mutF c hc
    exact ⟨o, k _ _ (nf c hc) e, d⟩
  · obtain ⟨sl, e⟩ := a.out q hq
    exact ⟨sl, k _ _ (nf _ (.tail _ (List.mem_map_of_mem hq))) e⟩

theorem Loc.aside {env : Env} {f : Fr'} {B : Addr → Prop} (c : Loc X env m h ρ f) (hL : env.locals = X.L) (hB : ∀ b, B b → Aside X.G h b) (k : ∀ c o, ¬ B c → h.get? c = some o → h'.get? c = some o) (s₀ : Shared) : Loc X env m h' ρ f := by
  refine ⟨⟨m, .inl ⟨hL, rfl⟩, fun x v e => ?_⟩, c.cel⟩
  obtain ⟨z, w, e1, e2, e3⟩ := Loc.own (s := { s₀ with heap := h }) c hL x v e
  exact ⟨z, w, e1, e2, vr_aside hB k e3⟩
end

/-! one address more that is no value -/
section
variable {G G' : Gd} {h : Heap} {ρ : Rho}
mutual
theorem VR.gd (h1 : G'.sa = G.sa) (h2 : G'.sv = G.sv) (hb : ∀ b ws, IsTup h b ws → ¬ G.bad b → ¬ G'.bad b) : ∀ (v : V) (w : Value), VR G h ρ v w → VR G' h ρ v w
  | .none, _, x => x
  | .bool _, _, x => x
  | .int _, _, x => x
  | .str _, _, x => x
  | .tup vs, _, x => by
    obtain ⟨a, ws, e, t, r⟩ := x
    exact ⟨a, ws, e, ⟨t.1, hb _ _ t.1 t.2⟩, VRs.gd h1 h2 hb vs ws r⟩
  | .lst vs, _, x => by
    exact ⟨h1 ▸ x.1, h2 ▸ VRs.gd h1 h2 hb vs _ x.2⟩
  | .rng _, _, x => x
  | .ref _, _, x => x
  | .top _, _, x => x
theorem VRs.gd (h1 : G'.sa = G.sa) (h2 : G'.sv = G.sv) (hb : ∀ b ws, IsTup h b ws → ¬ G.bad b → ¬ G'.bad b) : ∀ (v : List V) (w : List Value), VRs G h ρ v w → VRs G' h ρ v w
  | [], [], _ => trivial
  | v :: vs, w :: ws, x => by
    exact ⟨VR.gd h1 h2 hb v w x.1, VRs.gd h1 h2 hb vs ws x.2⟩
  | [], _ :: _, x => False.elim x
  | _ :: _, [], x => False.elim x
end
theorem OR.gd {kOf : Nat → FuncData → Prop} (H : ∀ v w, VR G h ρ v w → VR G' h ρ v w) (Hs : ∀ v w, VRs G h ρ v w → VRs G' h ρ v w) : ∀ (o : O) (p : Addr × Addr), OR G kOf h ρ o p → OR G' kOf h ρ o p
  | .list vs, p, y => by obtain ⟨q, ws, n, a, b⟩ := y; exact ⟨q, ws, n, a, Hs _ _ b⟩
  | .inst C fs, p, y => by
    obtain ⟨q, es, n, a, b⟩ := y
    refine ⟨q, es, n, a, ?_⟩
    have : ∀ (fs : List (Nat × V)) (es : List DictEntry), FRel G h ρ fs es → FRel G' h ρ fs es := by
      intro fs
      induction fs with
      | nil => intro es x; cases es <;> exact x
      | cons f fs ih =>
        intro es x
        cases es with
        | nil => exact False.elim x
        | cons e es =>
          obtain ⟨i, v⟩ := f
          obtain ⟨⟨s, t, a, b, c⟩, r⟩ := x
          exact ⟨⟨s, t, a, b, H _ _ c⟩, ih _ r⟩
    exact this _ _ b
  | .cell v, p, y => by
    obtain ⟨q, o, w, a, b, c⟩ := y
    refine ⟨q, o, w, a, b, ?_⟩
    cases v <;> cases w <;> first | exact c | exact H _ _ c
  | .clos k cs, p, y => by obtain ⟨q, o, fd, a, b, c, d, e, f⟩ := y; exact ⟨q, o, fd, a, b, c, d, e, f⟩
end

@[reducible] def Bx.bar (X : Bx) (b : Addr) : Bx := { X with G := { X.G with bad := fun a => X.G.bad a ∨ a = b } }
section
variable {X : Bx} {b : Addr} {m m' : Str → Option Value} {s₀ s s' : Shared} {ρ₀ ρ ρ' : Rho} {σ₀ σ σ' : Hp} {h h' : Heap}
theorem vr_unbar {v : V} {w : Value} (x : VR (X.bar b).G h ρ v w) : VR X.G h ρ v w := VR.gd (G := (X.bar b).G) (G' := X.G) rfl rfl (fun zz zz zz n q => n (Or.inl q)) v w x
theorem vrs_unbar {v : List V} {w : List Value} (x : VRs (X.bar b).G h ρ v w) : VRs X.G h ρ v w := VRs.gd (G := (X.bar b).G) (G' := X.G) rfl rfl (fun zz zz zz n q => n (Or.inl q)) v w x
theorem vr_bar (hb : h.get? b = none) {v : V} {w : Value} (x : VR X.G h ρ v w) : VR (X.bar b).G h ρ v w := VR.gd (G := X.G) (G' := (X.bar b).G) rfl rfl (fun a zz t n q => by
  rcases q with q | rfl
  · exact n q
  · obtain ⟨o, e, zz⟩ := t; rw [hb] at e; cases e) v w x
theorem vrs_bar (hb : h.get? b = none) {v : List V} {w : List Value} (x : VRs X.G h ρ v w) : VRs (X.bar b).G h ρ v w := VRs.gd (G := X.G) (G' := (X.bar b).G) rfl rfl (fun a zz t n q => by
  rcases q with q | rfl
  · exact n q
  · obtain ⟨o, e, zz⟩ := t; rw [hb] at e; cases e) v w x
theorem At.unbar (a : At (X.bar b) m s ρ σ) : At X m s ρ σ :=
  ⟨a.fr, ⟨a.rel.len, fun n o e => let ⟨p, hp, ho⟩ := a.rel.obj n o e; ⟨p, hp, ho.gd (fun zz zz => vr_unbar) (fun zz zz => vrs_unbar)⟩, a.rel.new, a.rel.nod, a.rel.mutF⟩, a.out, a.apart, fun c hc => a.bad c (.inl hc)⟩
theorem After.unbar (x : After (X.bar b) m s ρ s' ρ' σ') : After X m s ρ s' ρ' σ' := ⟨x.eq, x.at_.unbar, x.ext⟩
theorem Flown.unbar {l : List Env} {c : Nat} {e : Addr} (x : Flown (X.bar b) l m s ρ c σ' e s') : Flown X l m s ρ c σ' e s' := by
  obtain ⟨hh, B, ρ', t, fl, up⟩ := x
  exact ⟨hh, B, ρ', t, fl, fun h' st u => (up h' st u).unbar⟩
theorem Side.unbar {h : Heap} {e : Addr} (S : Side (X.bar b) s ρ h e) : Side X s ρ h e := ⟨S.base, S.new, S.fa, S.rho, S.obj, fun q => S.bad (.inl q)⟩
theorem Raised.unbar {l : List Env} {c : Nat} {e : Addr} (x : Raised (X.bar b) l m s ρ c σ' e s') : Raised X l m s ρ c σ' e s' := by
  rcases x with x | ⟨ρ', y, S, o⟩
  · exact .inl x.unbar
  · exact .inr ⟨ρ', y.unbar, S.unbar, o⟩
theorem Loc.unbar {env : Env} {f : Fr'} (c : Loc (X.bar b) env m h ρ f) : Loc X env m h ρ f := by
  obtain ⟨⟨mC, hl, hv⟩, hc⟩ := c
  exact ⟨⟨mC, hl, fun x v e => let ⟨s, w, a, b, c⟩ := hv x v e; ⟨s, w, a, b, vr_unbar c⟩⟩, hc⟩
theorem Loc.bar {env : Env} {f : Fr'} (hb : h.get? b = none) (c : Loc X env m h ρ f) : Loc (X.bar b) env m h ρ f := by
  obtain ⟨⟨mC, hl, hv⟩, hc⟩ := c
  exact ⟨⟨mC, hl, fun x v e => let ⟨s, w, a, b, c⟩ := hv x v e; ⟨s, w, a, b, vr_bar hb c⟩⟩, hc⟩
theorem ContS.bar {l : List Env} {env : Env} {f : Fr'} {out : R (Fl × List (Nat × V))} {Q : Flow → Shared → Prop} {E : Value → Shared → Prop} (C : ContS X l env f s ρ out Q E) : ContS (X.bar b) l env f s ρ out Q E := by
  cases out with
  | ok v σ' =>
    intro w s' ρ' m' x y z
    refine C w s' ρ' m' x.unbar ?_ z.unbar
    obtain ⟨fl, lo⟩ := v
    cases fl with
    | ret v => obtain ⟨z, e, y⟩ := y; exact ⟨z, e, vr_unbar y⟩
    | _ => exact y
  | ex c mv σ' => exact fun e s' m' x => C e s' m' x.unbar
  | no => exact C
theorem After.asideU {B : Addr → Prop} {tk : Nat} (x : After (X.bar b) m s₀ ρ₀ s ρ σ) (hB : ∀ b', B b' → Aside (X.bar b).G s.heap b') (hS : ∀ b', B b' → Stay (X.bar b) s₀ ρ s.heap b') (hE : ∀ b', B b' → ¬ X.G.bad b')
    (k : ∀ c o, ¬ B c → s.heap.get? c = some o → h'.get? c = some o) : After X m s₀ ρ₀ { s with heap := h', toks := tk } ρ σ := by
  have a := x.at_
  have nf : ∀ c ∈ X.fa, ¬ B c := fun c hc q => (hS c q).fa hc
  obtain ⟨hh, tt, e0⟩ := x.eq
  have k0 : ∀ c o, X.h₀.get? c = some o → h'.get? c = some o := fun c o e => k c o (fun q => by rw [(hS c q).base] at e; cases e) (a.fr.keep c o e)
  have ns : h'.Ns X.L m := by
    obtain ⟨o, es, n, e, d, rr⟩ := a.fr.ns
    exact ⟨o, es, n, k _ _ (nf _ (.head _)) e, d, rr⟩
  refine ⟨⟨h', tk, by rw [e0]⟩, ⟨⟨ns, k0, a.fr.above⟩, ⟨a.rel.len, fun n o e => ?_, a.rel.new, a.rel.nod, fun c hc => ?_⟩, fun q hq => ?_, a.apart, fun c hc => ?_⟩, ⟨x.ext.pre, fun c o e h1 h2 => k c o (fun q => by rw [(hS c q).new] at e; cases e) (x.ext.keep c o e h1 h2)⟩⟩
  · obtain ⟨p, hp, ho⟩ := a.rel.obj n o e
    exact ⟨p, hp, (ho.aside hB k fun q => (hS _ q).rho p (List.mem_of_getElem? hp) rfl).gd (fun zz zz => vr_unbar) (fun zz zz => vrs_unbar)⟩
  · obtain ⟨o, e, d⟩ := a.rel.mutF c hc
    exact ⟨o, k _ _ (nf c hc) e, d⟩
  · obtain ⟨sl, e⟩ := a.out q hq
    exact ⟨sl, k _ _ (nf _ (.tail _ (List.mem_map_of_mem hq))) e⟩
  · obtain ⟨h1, o, e⟩ := a.bad c (.inl hc)
    exact ⟨h1, o, k c o (fun q => hE c q hc) e⟩
theorem Gr.bar {A : Around} {fenv : Env} {outer : List Env} {dep : Nat} (γ : Gr g A X fenv outer dep) : Gr g A (X.bar b) fenv outer dep :=
  ⟨γ.K, γ.T, γ.scr, γ.fr, γ.ff, γ.fk, γ.out, γ.hh, γ.depth, γ.units, γ.few, γ.kk⟩
theorem EnvOK.bar {env : Env} {kd : Kd} (We : EnvOK X env kd) : EnvOK (X.bar b) env kd := ⟨We.kind, We.glob, We.kd, We.frame, We.bltn⟩
theorem At.bar (a : At X m s ρ σ) (hb : s.heap.get? b = none) {o : Obj} {tk : Nat} (e : h'.get? b = some o) (k : ∀ c o, s.heap.get? c = some o → h'.get? c = some o) : At (X.bar b) m { s with heap := h', toks := tk } ρ σ := by
  have R' : Rel (X.bar b).G X.kOf X.h₀ X.fa s.heap ρ σ := ⟨a.rel.len, fun n o e => let ⟨p, hp, ho⟩ := a.rel.obj n o e; ⟨p, hp, ho.gd (fun zz zz => vr_bar hb) (fun zz zz => vrs_bar hb)⟩, a.rel.new, a.rel.nod, a.rel.mutF⟩
  have x : Ext X.fa s.heap ρ h' ρ := ⟨⟨[], by simp, fun zz hp => nomatch hp⟩, fun b o e zz zz => k b o e⟩
  refine ⟨⟨?_, fun c o e => k c o (a.fr.keep c o e), a.fr.above⟩, ⟨a.rel.len, fun n o e => ?_, a.rel.new, a.rel.nod, fun c hc => ?_⟩, fun q hq => ?_, a.apart, fun c hc => ?_⟩
  · obtain ⟨o, es, n, e, d, rr⟩ := a.fr.ns
    exact ⟨o, es, n, k _ _ e, d, rr⟩
  · obtain ⟨p, hp, ho⟩ := R'.obj n o e
    exact ⟨p, hp, ho.carry x R' fun o e => k _ _ e⟩
  · obtain ⟨o, e, d⟩ := a.rel.mutF c hc
    exact ⟨o, k _ _ e, d⟩
  · obtain ⟨sl, e⟩ := a.out q hq
    exact ⟨sl, k _ _ e⟩
  · rcases hc with hc | rfl
    · obtain ⟨h1, o, h2⟩ := a.bad c hc
      exact ⟨h1, o, k _ _ h2⟩
    · refine ⟨?_, o, e⟩
      cases q : X.h₀.get? c with
      | none => rfl
      | some o => rw [a.fr.keep _ _ q] at hb; cases hb
end
end Mine.Internal
end

section
open PySem PySem.W PyProof.Rows PySem.Calls PySem.SeqAt
set_option autoImplicit false
set_option maxRecDepth 100000
namespace Mine.Internal

variable {g : Pg} {P : Tab}

theorem nv_listIter {h : Heap} {I l : Addr} {i : Nat} (x : h.IsListIter I l i) : ∃ o, h.get? I = some o ∧ NotVal o := by
  obtain ⟨o, ho, hc, hd⟩ := x
  exact ⟨o, ho, fun zz zz q => (by rw [hc] at q; injection q with q; exact absurd q (by decide)), fun q => (by rw [hc] at q; injection q with q; exact absurd q (by decide)), (by rw [hd]; exact fun q => (by cases q)), by rw [hd]; exact fun zz e q t h => (by cases e; cases h)⟩
theorem nv_zip {h : Heap} {z TI TO : Addr} {f0 : Value} (x : IsZip h z TI TO f0) : ∃ o, h.get? z = some o ∧ NotVal o :=
  ⟨_, x, fun zz zz q => (by injection q with q; exact absurd q (by decide)), fun q => (by injection q with q; exact absurd q (by decide)), fun q => (by cases q), fun zz e q t h => by cases e; cases h⟩

theorem srcAt_list {σ : Hp} {i n : Nat} {o : Option V} (h : srcAt σ i (.ref n) = some o) : ∃ vs, σ[n]? = some (.list vs) ∧ i ≤ vs.length ∧ o = vs[i]? := by
  rcases srcAt_inv h with ⟨n', vs, q, e⟩ | ⟨_, q, _⟩
  · cases q; exact ⟨vs, e⟩
  · cases q

section
variable {A : Around} {X : Bx} {env : Env} {outer : List Env} {m : Str → Option Value} {s : Shared} {ρ : Rho} {σ : Hp} {f : Fr'} {kd : Kd} {E : Value → Shared → Prop} {Q : Flow → Shared → Prop}

structure Zd where
  z : Addr
  TI : Addr
  TO : Addr
  i1 : Addr
  i2 : Addr
  l1 : Addr
  l2 : Addr
@[reducible] def Zd.B (d : Zd) : Addr → Prop := fun b => b = d.z ∨ b = d.TO ∨ b = d.i1 ∨ b = d.i2
structure ZS (X : Bx) (s₀ : Shared) (ρ : Rho) (h : Heap) (d : Zd) (n1 n2 i : Nat) (f0 : Value) : Prop where
  z : IsZip h d.z d.TI d.TO f0
  TI : IsPair h d.TI (.ref d.i1) (.ref d.i2)
  TO : ∃ a b, IsPair h d.TO a b
  it1 : h.IsListIter d.i1 d.l1 i
  it2 : h.IsListIter d.i2 d.l2 i
  p1 : ∃ p, ρ[n1]? = some p ∧ p.1 = d.l1
  p2 : ∃ p, ρ[n2]? = some p ∧ p.1 = d.l2
  sz : Stay X s₀ ρ h d.z
  sTI : Stay X s₀ ρ h d.TI
  sTO : Stay X s₀ ρ h d.TO
  s1 : Stay X s₀ ρ h d.i1
  s2 : Stay X s₀ ρ h d.i2
  bad : X.G.bad d.TO

variable {m' : Str → Option Value} {s₀ s' : Shared} {ρ₀ ρ' : Rho} {σ₀ σ' : Hp} {h h' : Heap} {d : Zd} {n1 n2 i : Nat} {f0 : Value}
theorem ZS.asides (S : ZS X s₀ ρ h d n1 n2 i f0) : (∀ b, d.B b → Aside X.G h b) ∧ ∀ b, d.B b → Stay X s₀ ρ h b := by
  refine ⟨fun b q => ?_, fun b q => ?_⟩
  · rcases q with rfl | rfl | rfl | rfl
    · exact .inl (nv_zip S.z)
    · obtain ⟨a, b, e⟩ := S.TO
      exact .inr ⟨S.bad, _, _, _, e, rfl⟩
    · exact .inl (nv_listIter S.it1)
    · exact .inl (nv_listIter S.it2)
  · rcases q with rfl | rfl | rfl | rfl
    · exact S.sz
    · exact S.sTO
    · exact S.s1
    · exact S.s2
theorem ZS.after (S : ZS X s₀ ρ s.heap d n1 n2 i f0) (x : After X m s ρ s' ρ' σ') : ZS X s₀ ρ' s'.heap d n1 n2 i f0 := by
  obtain ⟨sz, kz⟩ := S.sz.after x
  obtain ⟨sTI, kTI⟩ := S.sTI.after x
  obtain ⟨sTO, kTO⟩ := S.sTO.after x
  obtain ⟨s1, k1⟩ := S.s1.after x
  obtain ⟨s2, k2⟩ := S.s2.after x
  obtain ⟨a, b, e⟩ := S.TO
  refine ⟨kz _ S.z, kTI _ S.TI, ⟨a, b, kTO _ e⟩, S.it1.at k1, S.it2.at k2, ?_, ?_, sz, sTI, sTO, s1, s2, S.bad⟩
  · obtain ⟨p, e, q⟩ := S.p1; exact ⟨p, x.ext.get e, q⟩
  · obtain ⟨p, e, q⟩ := S.p2; exact ⟨p, x.ext.get e, q⟩

structure ZSt (P : Tab) (X : Bx) (env : Env) (f : Fr') (s₀ : Shared) (ρ₀ : Rho) (out : R (Fl × List (Nat × V))) (t : Tg) (n1 n2 : Nat) (b : List S) (d : Zd) (j i : Nat) (s : Shared) (l : List (Nat × V)) (σ : Hp) (ρ : Rho) (m : Str → Option Value) : Prop where
  out : (run P j).forZ t (.ref n1) (.ref n2) i b ⟨l, f.cel, f.dep⟩ σ = out
  aft : After X m s₀ ρ₀ s ρ σ
  loc : Loc X env m s.heap ρ ⟨l, f.cel, f.dep⟩
  toks : s₀.toks ≤ s.toks
  zs : ZS X s₀ ρ s.heap d n1 n2 i .none

theorem Zd.notB {c : Addr} (q : ¬ d.B c) : c ≠ d.z ∧ c ≠ d.TO ∧ c ≠ d.i1 ∧ c ≠ d.i2 := ⟨fun z => q (.inl z), fun z => q (.inr (.inl z)), fun z => q (.inr (.inr (.inl z))), fun z => q (.inr (.inr (.inr z)))⟩
structure ZL (X : Bx) (h : Heap) (ρ : Rho) (l : Addr) (i : Nat) (o : Option V) : Prop where
  p : ∃ ws : List Value, h.IsList l ws.toArray ∧ match o with
    | some v => ∃ w, ws.toArray[i]? = some w ∧ VR X.G h ρ v w
    | none => ws.toArray[i]? = none
theorem ZL.of {n : Nat} {p : Addr × Addr} {l : Addr} {o : Option V} (a : At X m s ρ σ) (hp : ρ[n]? = some p) (hq : p.1 = l) (hs : srcAt σ i (.ref n) = some o) : ZL X s.heap ρ l i o := by
  obtain ⟨vs, e, hi, rfl⟩ := srcAt_list hs
  obtain ⟨hq1, ws, hl, rr⟩ := isList_of (a.rel.at e hp)
  subst hq
  refine ⟨ws, hq1 ▸ hl, ?_⟩
  rw [List.getElem?_toArray]
  cases hv : vs[i]? with
  | none => exact List.getElem?_eq_none (rr.length ▸ List.getElem?_eq_none_iff.mp hv)
  | some v => exact rr.get i v hv
structure ZNew (X : Bx) (env : Env) (f : Fr') (m : Str → Option Value) (s₀ : Shared) (ρ₀ : Rho) (s : Shared) (h : Heap) (ρ : Rho) (σ : Hp) (d : Zd) (n1 n2 i : Nat) (f0 : Value) (v w : V) (a : Value) : Prop where
  aft : After X m s₀ ρ₀ { s with heap := h, toks := s.toks } ρ σ
  loc : Loc X env m h ρ f
  vr : VR X.G h ρ (.tup [v, w]) a
  zs : ZS X s₀ ρ h d n1 n2 i f0
section
variable {v w : V} {m₀ : Str → Option Value}
theorem zip_item (D : ZipApart d.z d.TI d.TO d.i1 d.i2 d.l1 d.l2) (hL : env.locals = X.L) (zs : ZS X s₀ ρ s.heap d n1 n2 i .none) (aft : After X m s₀ ρ₀ s ρ σ) (lc : Loc X env m s.heap ρ f) (z1 : ZL X s.heap ρ d.l1 i (some v)) (z2 : ZL X s.heap ρ d.l2 i (some w))
    {Q : Option Value → Shared → Prop} (hq : ∀ h', ZNew X env f m s₀ ρ₀ s h' ρ σ d n1 n2 (i + 1) (rawInt s.heap.objs.size) v w (.ref s.heap.objs.size) → Q (some (.ref s.heap.objs.size)) { s with heap := h' }) : wpAny (model g.prog g.w) A (pyNext (.ref d.z)) Q E s := by
  obtain ⟨ws1, hl1, w1, hw1, V1⟩ := z1
  obtain ⟨ws2, hl2, w2, hw2, V2⟩ := z2
  obtain ⟨ta, tb, hTO⟩ := zs.TO
  obtain ⟨hAs, hSt⟩ := zs.asides
  refine wpAny_pyNext_zip_item D zs.z zs.TI hTO zs.it1 zs.it2 hl1 hl2 hw1 hw2 fun h' z' TO' it1 it2 T' zz k => hq h' ?_
  have k' : ∀ c o, ¬ d.B c → s.heap.get? c = some o → h'.get? c = some o := fun c o q e => by
    obtain ⟨q1, q2, q3, q4⟩ := Zd.notB q
    exact k c o q1 q2 q3 q4 e
  have TI' := k _ _ D.TIz D.TITO D.TIi1 D.TIi2 zs.TI
  obtain ⟨o1, e1, r1⟩ := it1
  obtain ⟨o2, e2, r2⟩ := it2
  refine ⟨aft.aside hAs hSt (fun b q zz => ?_) k', lc.aside hL hAs k' s₀, ⟨_, [w1, w2], rfl, ⟨⟨_, T', rfl, _, rfl⟩, aft.at_.nbad get_size⟩, vr_aside hAs k' V1, vr_aside hAs k' V2, trivial⟩,
    ⟨z', TI', ⟨_, _, TO'⟩, ⟨o1, e1, r1⟩, ⟨o2, e2, r2⟩, zs.p1, zs.p2, zs.sz.mv z', zs.sTI.mv TI', zs.sTO.mv TO', zs.s1.mv e1, zs.s2.mv e2, zs.bad⟩⟩
  rcases q with rfl | rfl | rfl | rfl
  · exact ⟨_, z'⟩
  · exact ⟨_, TO'⟩
  · exact ⟨o1, e1⟩
  · exact ⟨o2, e2⟩
theorem zip_own {a : Addr} {elts : List Expr} {x1 : Nat} {pos : Pos} (D : ZipApart d.z d.TI d.TO d.i1 d.i2 d.l1 d.l2) (hL : env.locals = X.L) (S : ZNew X env f m s₀ ρ₀ s h ρ σ d n1 n2 i (rawInt a) v w (.ref a))
    {Q : Unit → Shared → Prop} (hq : ∀ h', ZNew X env f m s₀ ρ₀ s h' ρ σ d n1 n2 i .none v w (.ref a) → Q () { s with heap := h' }) : wpAny (model g.prog g.w) A (letOwnedTupleGo (.Tuple elts x1 pos) (.ref d.z) (.ref a)) Q E { s with heap := h } := by
  refine wpAny_letOwnedTupleGo_zip S.zs.z fun h' z' hs => hq h' ?_
  have k : ∀ c o, c ≠ d.z → h.get? c = some o → h'.get? c = some o := fun c o q e => hs.extBut c o q e
  have hA : ∀ b, b = d.z → Aside X.G h b := fun b q => q ▸ .inl (nv_zip S.zs.z)
  have TI' := k _ _ D.TIz S.zs.TI
  obtain ⟨p, q, TO⟩ := S.zs.TO
  have TO' := k _ _ D.TOz TO
  obtain ⟨o1, e1, r1⟩ := S.zs.it1
  obtain ⟨o2, e2, r2⟩ := S.zs.it2
  have e1' := k _ _ D.i1z e1
  have e2' := k _ _ D.i2z e2
  exact ⟨After.aside (s := { s with heap := h, toks := s.toks }) (B := fun b => b = d.z) S.aft hA (fun b q => q ▸ S.zs.sz) (fun b q zz => ⟨_, q ▸ z'⟩) k, Loc.aside (B := fun b => b = d.z) S.loc hL hA k s₀, vr_aside (B := fun b => b = d.z) hA k S.vr,
    ⟨z', TI', ⟨_, _, TO'⟩, ⟨o1, e1', r1⟩, ⟨o2, e2', r2⟩, S.zs.p1, S.zs.p2, S.zs.sz.mv z', S.zs.sTI.mv TI', S.zs.sTO.mv TO', S.zs.s1.mv e1', S.zs.s2.mv e2', S.zs.bad⟩⟩
theorem zip_done {o1 o2 : Option V} (hh : A.handled = none) (hL : env.locals = X.L) (D : ZipApart d.z d.TI d.TO d.i1 d.i2 d.l1 d.l2) (nb : ∀ b, d.B b → ¬ X.G.bad b) (zs : ZS (X.bar d.TO) s₀ ρ s.heap d n1 n2 i .none) (aft : After (X.bar d.TO) m s₀ ρ₀ s ρ σ) (lc : Loc (X.bar d.TO) env m s.heap ρ f)
    (z1 : ZL (X.bar d.TO) s.heap ρ d.l1 i o1) (z2 : ZL (X.bar d.TO) s.heap ρ d.l2 i o2) (h0 : o1 = none ∨ o2 = none) {Q : Option Value → Shared → Prop} (hq : ∀ h', After X m s₀ ρ₀ { s with heap := h', toks := s.toks } ρ σ → Loc X env m h' ρ f → Q none { s with heap := h' }) :
    wpAny (model g.prog g.w) A (pyNext (.ref d.z)) Q E s := by
  obtain ⟨ws1, hl1, q1⟩ := z1
  obtain ⟨ws2, hl2, q2⟩ := z2
  obtain ⟨ta, tb, hTO⟩ := zs.TO
  obtain ⟨hAs, hSt⟩ := zs.asides
  refine wpAny_pyNext_zip_end hh D zs.z zs.TI hTO zs.it1 zs.it2 hl1 hl2 (h0.imp (fun e => by subst e; exact q1) fun e => by subst e; exact q2) fun h' k => ?_
  have k' : ∀ c o, ¬ d.B c → s.heap.get? c = some o → h'.get? c = some o := fun c o q e => by
    obtain ⟨q1, q2, q3, q4⟩ := Zd.notB q
    exact k c o q1 q2 q3 q4 e
  exact hq h' (aft.asideU hAs hSt nb k') (lc.aside hL hAs k' s₀).unbar
end

theorem zip_turn {r : Rec} {j : Nat} (hx : SX g r) {elts : List Expr} {x1} {pos : Pos} {b : List Stmt} {t : Tg} {b' : List S} (ht : TrTg kd (.Tuple elts x1 pos) t) (hb : TrSs kd b b') (γ' : Gr g A X env outer f.dep) (W' : EnvOK X env kd) (hL : env.locals = X.L) (hE : PassesOwn (model g.prog g.w) A env E)
    (D : ZipApart d.z d.TI d.TO d.i1 d.i2 d.l1 d.l2) (nb : ∀ b, d.B b → ¬ X.G.bad b) (tk : 0 < s₀.toks) {out : R (Fl × List (Nat × V))} (C : ContS X (env :: outer) env f s₀ ρ₀ out Q E) {l : List (Nat × V)} {J : Nat → Shared → Prop}
    (aft : After (X.bar d.TO) m s₀ ρ₀ s ρ σ) (lc : Loc (X.bar d.TO) env m s.heap ρ ⟨l, f.cel, f.dep⟩) (tks : s₀.toks ≤ s.toks) (zs : ZS (X.bar d.TO) s₀ ρ s.heap d n1 n2 i .none) (ho : forZF r t (.ref n1) (.ref n2) i b' ⟨l, f.cel, f.dep⟩ σ = out)
    (hJ : ∀ {lo σ' s' ρ' m'}, r.forZ t (.ref n1) (.ref n2) (i + 1) b' ⟨lo, f.cel, f.dep⟩ σ' = out → After (X.bar d.TO) m' s₀ ρ₀ s' ρ' σ' → Loc (X.bar d.TO) env m' s'.heap ρ' ⟨lo, f.cel, f.dep⟩ → s₀.toks ≤ s'.toks → ZS (X.bar d.TO) s₀ ρ' s'.heap d n1 n2 (i + 1) .none → J j s') :
    wpAny (model g.prog g.w) A (pyNext (.ref d.z)) (ForQ (model g.prog g.w) A (.Tuple elts x1 pos) (.ref d.z) b env J Q E (j + 1)) E s := by
  obtain ⟨p1, hp1, hq1⟩ := zs.p1
  obtain ⟨p2, hp2, hq2⟩ := zs.p2
  unfold forZF at ho
  cases hs1 : srcAt σ i (.ref n1) with
  | none => rw [hs1] at ho; cases ho; exact C.elim
  | some o1 =>
    have Z1 := ZL.of aft.at_ hp1 hq1 hs1
    cases hs2 : srcAt σ i (.ref n2) with
    | none => rw [hs1, hs2] at ho; cases o1 <;> (cases ho; exact C.elim)
    | some o2 =>
      have Z2 := ZL.of aft.at_ hp2 hq2 hs2
      rw [hs1, hs2] at ho
      clear hs1 hs2 hp1 hp2 hq1 hq2
      cases o1 with
      | none => cases ho; exact zip_done γ'.hh hL D nb zs aft lc Z1 Z2 (.inl rfl) fun h₂ a₂ lc₂ => C .next _ ρ m a₂ rfl lc₂
      | some v =>
        cases o2 with
        | none => cases ho; exact zip_done γ'.hh hL D nb zs aft lc Z1 Z2 (.inr rfl) fun h₂ a₂ lc₂ => C .next _ ρ m a₂ rfl lc₂
        | some w =>
          dsimp only at ho
          refine zip_item (X := X.bar d.TO) D hL zs aft lc Z1 Z2 fun h₂ S₂ => zip_own (X := X.bar d.TO) D hL S₂ fun h₃ S₃ => ?_
          cases hasg : asgT ⟨l, f.cel, f.dep⟩ σ t (.tup [v, w]) with
          | none => rw [hasg] at ho; cases ho; exact C.elim
          | some q =>
            rw [hasg] at ho
            refine asg_ok (m := m) (s := { s with heap := h₃, toks := s.toks }) W'.bar hL γ'.hh ht S₃.aft.at_ S₃.loc S₃.vr hasg fun m₄ s₄ st₄ => ?_
            have tk₄ : s₀.toks ≤ s₄.toks := Nat.le_trans tks st₄.toks
            have aft₄ := S₃.aft.trans st₄.after
            exact body_go hx hb γ'.bar W'.bar hL hE aft₄ st₄.loc (Nat.lt_of_lt_of_le tk tk₄) C.bar (nx := fun lo h => r.forZ t (.ref n1) (.ref n2) (i + 1) b' ⟨lo, f.cel, f.dep⟩ h) ho fun e x c k =>
              hJ e (aft₄.trans x) c (Nat.le_trans tk₄ k) ((ZS.after (s := { s with heap := h₃, toks := s.toks }) S₃.zs st₄.after).after x)
theorem L_zip {n : Nat} (hall : ∀ k, k < n → SX g (run P k)) {elts : List Expr} {x1} {pos : Pos} {b : List Stmt} {t : Tg} {b' : List S} (ht : TrTg kd (.Tuple elts x1 pos) t) (hb : TrSs kd b b') (γ : Gr g A X env outer f.dep) (W : EnvOK X env kd) (hL : env.locals = X.L) (hE : PassesOwn (model g.prog g.w) A env E)
    (D : ZipApart d.z d.TI d.TO d.i1 d.i2 d.l1 d.l2) (nb : ∀ b, d.B b → ¬ X.G.bad b) (tk : 0 < s₀.toks) {out : R (Fl × List (Nat × V))} (C : ContS X (env :: outer) env f s₀ ρ₀ out Q E) {l : List (Nat × V)} (st : ZSt P (X.bar d.TO) env f s₀ ρ₀ out t n1 n2 b' d n i s l σ ρ m) :
    codeAny (model g.prog g.w) A (.forLoop (.Tuple elts x1 pos) (.ref d.z) b [] env) (LoopEnd (model g.prog g.w) A env Q E) s := by
  refine forLoop_go hE (fun j s' => j ≤ n ∧ ∃ i l σ' ρ' m', ZSt P (X.bar d.TO) env f s₀ ρ₀ out t n1 n2 b' d j i s' l σ' ρ' m') (fun j s₁ => ?_) n ⟨Nat.le_refl _, i, l, σ, ρ, m, st⟩
  generalize hJ : (fun j s' => j ≤ n ∧ ∃ i l σ' ρ' m', ZSt P (X.bar d.TO) env f s₀ ρ₀ out t n1 n2 b' d j i s' l σ' ρ' m') = J
  intro h
  obtain ⟨hj, i, l, σ₁, ρ₁, m₁, st⟩ := h
  cases j with
  | zero => cases st.out; exact C.elim
  | succ j =>
    refine zip_turn (hall j hj) ht hb γ W hL hE D nb tk C st.aft st.loc st.toks st.zs st.out fun e x c k z => ?_
    rw [← hJ]; exact ⟨Nat.le_of_succ_le hj, _, _, _, _, _, e, x, c, k, z⟩

theorem keeper_zip : keeperOf (.type "zip") = pure .machine := rfl
theorem two_lists {l : List Env} {vs : List V} {K : V → V → R (Fl × List (Nat × V))} (C : ContS X l env f s ρ (match vs with | [a, c] => if isLst σ a && isLst σ c then K a c else .no | _ => .no) Q E) :
    ∃ n1 n2 vs1 vs2, vs = [.ref n1, .ref n2] ∧ σ[n1]? = some (.list vs1) ∧ σ[n2]? = some (.list vs2) ∧ ContS X l env f s ρ (K (.ref n1) (.ref n2)) Q E := by
  cases vs with
  | nil => exact C.elim
  | cons a vs => cases vs with
    | nil => exact C.elim
    | cons c vs => cases vs with
      | cons _ _ => exact C.elim
      | nil =>
        change ContS X l env f s ρ (if isLst σ a && isLst σ c then K a c else .no) Q E at C
        by_cases q : (isLst σ a && isLst σ c) = true
        · rw [if_pos q] at C
          obtain ⟨n1, vs1, rfl, e1⟩ := isLst_inv (Bool.and_eq_true_iff.mp q).1
          obtain ⟨n2, vs2, rfl, e2⟩ := isLst_inv (Bool.and_eq_true_iff.mp q).2
          exact ⟨n1, n2, vs1, vs2, rfl, e1, e2, C⟩
        · rw [if_neg q] at C; exact C.elim
theorem zip_call {vs1 vs2 : List V} {ws : List Value} {Qi : Value → Shared → Prop} (at_ : At X m s ρ σ) (V : VRs X.G s.heap ρ [.ref n1, .ref n2] ws) (e1 : σ[n1]? = some (.list vs1)) (e2 : σ[n2]? = some (.list vs2)) (lc : Loc X env m s.heap ρ f) (hL : env.locals = X.L)
    (hq : ∀ (d : Zd) (h₂ : Heap), ZipApart d.z d.TI d.TO d.i1 d.i2 d.l1 d.l2 → (∀ b, d.B b → ¬ X.G.bad b) → After (X.bar d.TO) m s ρ { s with heap := h₂, toks := s.toks } ρ σ → Loc (X.bar d.TO) env m h₂ ρ f → ZS (X.bar d.TO) s ρ h₂ d n1 n2 0 .none → Qi (.ref d.z) { s with heap := h₂ }) :
    wpAny (model g.prog g.w) A (call (.type "zip") ws) (fun x s => wpAny (model g.prog g.w) A (pyIter x) Qi E s) E s := by
  obtain ⟨w₁, ws, rfl, V1, V⟩ := V.cons
  obtain ⟨w₂, ws, rfl, V2, V⟩ := V.cons
  obtain rfl := V.nil
  obtain ⟨b1, ws1, rfl, hl1, rr1⟩ := at_.list e1 V1
  obtain ⟨b2, ws2, rfl, hl2, rr2⟩ := at_.list e2 V2
  obtain ⟨p1, hp1, q1⟩ := V1
  obtain ⟨p2, hp2, q2⟩ := V2
  have lt1 : @LT.lt Nat _ b1 s.heap.objs.size := hl1.elim fun zz h => Heap.lt_size h.1
  have lt2 : @LT.lt Nat _ b2 s.heap.objs.size := hl2.elim fun zz h => Heap.lt_size h.1
  refine call_zip_2 hl1 hl2 fun h₂ hz hTI hTO i1 i2 hsz k => ?_
  have fresh : ∀ j, s.heap.get? (s.heap.objs.size + j) = none := fun j => by
    cases q : s.heap.get? (s.heap.objs.size + j) with
    | none => rfl
    | some o => exact absurd (Heap.lt_size q) (Nat.not_lt.mpr (Nat.le_add_right _ _))
  have a₂ : At (X.bar (s.heap.objs.size + 3)) m { s with heap := h₂, toks := s.toks } ρ σ := at_.bar (fresh 3) hTO k
  have mk : ∀ {j : Nat} {o : Obj}, h₂.get? (s.heap.objs.size + j) = some o → Stay (X.bar (s.heap.objs.size + 3)) s ρ h₂ (s.heap.objs.size + j) := fun {j o} e => by
    have := Stay.made (X := X) (h' := h₂) at_ (.refl at_) (fresh j) e
    exact ⟨this.base, this.new, this.fa, this.rho, this.obj⟩
  obtain ⟨o1, m1, r1⟩ := i1
  obtain ⟨o2, m2, r2⟩ := i2
  refine wpAny_pyIter_zip hz (hq ⟨s.heap.objs.size + 4, s.heap.objs.size + 2, s.heap.objs.size + 3, s.heap.objs.size, s.heap.objs.size + 1, b1, b2⟩ h₂ ?_ (fun b q => at_.nbad ?_) ⟨⟨_, _, rfl⟩, a₂, ⟨⟨[], (List.append_nil _).symm, fun zz hp => nomatch hp⟩, fun b o e zz zz => k b o e⟩⟩ ?_
    ⟨hz, hTI, ⟨_, _, hTO⟩, ⟨o1, m1, r1⟩, ⟨o2, m2, r2⟩, ⟨p1, hp1, by cases q1; rfl⟩, ⟨p2, hp2, by cases q2; rfl⟩, mk hz, mk hTI, mk hTO, mk (j := 0) m1, mk m2, .inr rfl⟩)
  · constructor <;> dsimp only <;> first | exact Nat.ne_of_lt (by omega) | exact Nat.ne_of_gt (by omega)
  · rcases q with rfl | rfl | rfl | rfl
    · exact fresh 4
    · exact fresh 3
    · exact fresh 0
    · exact fresh 1
  · have lb := lc.bar (b := s.heap.objs.size + 3) (fresh 3)
    refine ⟨⟨m, .inl ⟨hL, rfl⟩, fun x v e => ?_⟩, lc.cel⟩
    obtain ⟨z, w, e1, e2, e3⟩ := Loc.own (s := s) lb hL x v e
    refine ⟨z, w, e1, e2, VR.mono (fun zz zz zz t => ?_) (fun zz zz zz zz zz t => k _ _ t) (fun zz zz e => e) v w e3⟩
    obtain ⟨o, e, r⟩ := t; exact ⟨o, k _ _ e, r⟩
theorem S_zip {n : Nat} (hall : ∀ k, k < n → SX g (run P k)) (hr : SE g (run P n)) (Y : TabE g P X.G.K) {target a c : Expr} {x : Str} {q₁ q₂ p : Pos} {b : List Stmt} {t : Tg} {a' c' : T} {b' : List S} (hk : kd x = some .globalImplicit) (hx : x = ("zip" : Str)) (hT : isTupE target = true)
    (ht : TrTg kd target t) (ha : TrE kd a a') (hc : TrE kd c c') (hb : TrSs kd b b') (γ : Gr g A X env outer f.dep) (W : EnvOK X env kd) (hL : env.locals = X.L) (hE : PassesOwn (model g.prog g.w) A env E)
    (at_ : At X m s ρ σ) (lc : Loc X env m s.heap ρ f) (tk : 0 < s.toks) (C : ContS X (env :: outer) env f s ρ (((run P n).ev a' f σ).bind fun a h => ((run P n).ev c' f h).bind fun c h => if isLst h a && isLst h c then (run P n).forZ t a c 0 b' f h else .no) Q E) :
    wpAny (model g.prog g.w) A (exec (.For target (.Call (.Name x q₁) [a, c] [] q₂) b [] p) env) Q E s := by
  subst hx
  obtain ⟨elts, x1, pos, rfl⟩ := tupE hT
  have nameOK : ∀ {Q : Value → Shared → Prop}, Q (.type "zip") s → wpAny (model g.prog g.w) A (eval (.Name ("zip" : Str) q₁) env) Q E s := fun h =>
    Name_function_global W.kind ((W.kd _).trans hk) (loadGlobal_builtin (env := env) (by rw [W.glob]; exact γ.T.g.keeps at_.fr.keep) (mg_none_of γ.K γ.T.g Y.zip) (by rw [W.bltn]; exact γ.T.b.keeps at_.fr.keep)
      ((γ.T.builtins _ (by decide +kernel)).trans (by decide +kernel)) h) (by decide +kernel)
  refine wpAny_For (wpAny_Call_ofName (nameOK (callWith_go (TrEs.cons ha (TrEs.cons hc .nil)) (by simp) (E_evs (f := f) hr γ W _ (TrEs.cons ha (TrEs.cons hc .nil)) at_ lc tk (ContS.bindE (f := f) (Q := Q) (env := env)
    (x := evs (run P n) f [a', c'] σ) (k := fun vs h => match vs with | [a, c] => if isLst h a && isLst h c then (run P n).forZ t a c 0 b' f h else .no | _ => .no)
    (RvA := fun h ρ vs ws => VRs X.G h ρ vs ws) ?_ fun vs σ₁ ws s₁ ρ₁ e x₁ V₁ C₁ k₁ => ?_))))) (fun x => rfl)
  · have e : (evs (run P n) f [a', c'] σ).bind (fun vs h => match vs with | [a, c] => if isLst h a && isLst h c then (run P n).forZ t a c 0 b' f h else .no | _ => .no) = ((run P n).ev a' f σ).bind fun a h => ((run P n).ev c' f h).bind fun c h => if isLst h a && isLst h c then (run P n).forZ t a c 0 b' f h else .no := by
      change (((run P n).ev a' f σ).bind fun v h => (((run P n).ev c' f h).bind fun w h => R.ok [w] h).bind fun vs h => R.ok (v :: vs) h).bind _ = _
      cases (run P n).ev a' f σ with
      | ok v h =>
        dsimp only [R.bind]
        cases (run P n).ev c' f h <;> rfl
      | ex _ _ _ => rfl
      | no => rfl
    rw [e]; exact C
  · rw [keeper_zip]
    refine wpAny_pure ?_
    obtain ⟨n1, n2, vs1, vs2, rfl, e1, e2, C₁⟩ := two_lists C₁
    exact zip_call (f := f) x₁.at_ V₁ e1 e2 (lc.after at_ x₁) hL fun d h₂ D nb x₂ lc₂ zs => L_zip (f := f) (s₀ := s₁) (ρ₀ := ρ₁) hall ht hb γ W hL hE D nb (Nat.lt_of_lt_of_le tk k₁) C₁ ⟨rfl, x₂, lc₂, Nat.le_refl _, zs⟩
end
end Mine.Internal
end

section
open PySem PySem.W PyProof.Rows PySem.Calls
open Sem (wp)
set_option autoImplicit false
set_option maxRecDepth 100000
namespace Mine.Internal

section
variable {prog : Program} {w : World} {A : Around} {E : Value → Shared → Prop} {h : Heap} {g : Array GenState} {d : Drawn} {t : Nat} {os : OsState}
variable {nm q : Str} {C N : Addr} {bs bm : List Value} {hdct : Bool} {sn : List Str} {sub : List Value} {ab : Bool} {col : Option Bool} {dd : Option Addr} {k0 k1 k2 k3 k5 : Option Value}

noncomputable abbrev excObj (C t : Addr) (dx : Option Addr) : Obj := { cls := .ref C, dict := dx, data := .fields #[.ref t, .none, .none, .none, .bool false, .none] }
noncomputable abbrev excHeap (h : Heap) (C : Addr) (rest : List Value) : Heap := (h.push { cls := .type "tuple", data := .seq rest.toArray }).push (excObj C h.objs.size none)

theorem exc_new {R : Result → Shared → Prop} {rest : List Value} (hC : h.get? C = some (excClassObj nm q C N bs bm hdct sn sub ab col dd k0 k1 k2 k3 k5 "Exception.__new__"))
    (cB : bm.contains (.type "Exception") = true) (cA : bm.contains (.type "AttributeError") = false) (cN : bm.contains (.type "NameError") = false)
    (hrest : rest.length ≤ sizeLine) (hq : R (.ok (.ret (.ref (h.objs.size + 1)))) ⟨excHeap h C rest, g, d, t, os⟩) :
    codeAny (model prog w) A (.builtin "Exception.__new__" ⟨.ref C :: rest, []⟩) R ⟨h, g, d, t, os⟩ := by
  have Fn := F.excBase_Exception
  have hends := Fn.ends
  have hcB : (Value.ref C :: bm).contains (.type "Exception") = true := by rw [List.contains_cons, cB, Bool.or_true]
  have hcA : (Value.ref C :: bm).contains (.type "AttributeError") = false := by rw [List.contains_cons, cA]; rfl
  have hcN : (Value.ref C :: bm).contains (.type "NameError") = false := by rw [List.contains_cons, cN]; rfl
  refine codeAny_builtinAt Fn.entry ?_
  refine PySem.wpAt_bind ?_
  refine PySem.wpAt_bind (PySem.wpAt_stack fun p below => PySem.wpAt_of_wpAny ?_)
  wp_walk
  refine PySem.wpAt_of_wpAny ?_
  rw [Fn.owner]
  repeat (first | with_reducible refine wpAny_madeHere_exc Fn.canon hC ?_ | with_reducible refine wpAny_loadPart_at hC ?_ | (with_reducible refine wpAny_isSubtype_exc hC ?_; first | rw [hcB] | rw [hcA] | rw [hcN]) | wp_step)
  show R _ _
  rw [Heap.size_push]
  exact hq

theorem exc_type_call {rest : List Value} {fI : Addr} {oI : Obj} {Q : Fin → Shared → Prop}
    (hC : h.get? C = some (excClassObj nm q C N bs bm hdct sn sub ab col dd k0 k1 k2 k3 k5 "Exception.__new__"))
    (cB : bm.contains (.type "Exception") = true) (cA : bm.contains (.type "AttributeError") = false) (cN : bm.contains (.type "NameError") = false)
    (hi : ∀ h', (∀ b o, h.get? b = some o → h'.get? b = some o) → Looks (model prog w) h' (typeLookup (.ref C) "__init__") (some (.ref fI)))
    (hfI : h.get? fI = some oI) (hfc : oI.cls = .type "function") (hrest : rest.length ≤ sizeLine)
    (hq : wpAny (model prog w) A (call (.ref fI) (.ref (h.objs.size + 1) :: rest)) (fun r s' => r = .none ∧ Q (.done (.ret (.ref (h.objs.size + 1)))) s') E ⟨excHeap h C rest, g, d, t, os⟩) :
    wpAny (model prog w) A (Builtin.«type.__call__» ⟨.ref C :: rest, []⟩) Q E ⟨h, g, d, t, os⟩ := by
  have Fn := F.excBase_Exception
  repeat (first | with_reducible refine wpAny_loadPart_at hC ?_ | with_reducible refine wpAny_madeBy_exc hC ?_ | wp_step)
  refine codeAny_call_builtin_code (Code.quiet_builtin _ Fn.quiet) (wpAny_check_new_subU (bmB := bm) Fn cB .base hC ?_)
  refine exc_new hC cB cA cN hrest ?_
  have kk : ∀ b o, h.get? b = some o → (excHeap h C rest).get? b = some o := fun b o e => Heap.get?_push_of_some _ (Heap.get?_push_of_some _ e)
  have hC₁ := kk _ _ hC
  have hget : (excHeap h C rest).get? (h.objs.size + 1) = some (excObj C h.objs.size none) := by heap_get
  have hcC : (Value.ref C :: bm).contains (.ref C) = true := by simp
  repeat (first | with_reducible refine wpAny_loadPart_at hget ?_ | (with_reducible refine wpAny_isSubtype_exc hC₁ ?_; rw [hcC]) | wp_step)
  refine (hi _ kk).here ?_
  refine wpAny_holding (wpAny_bind ?_)
  refine wpAny_bind (wpAny_typeOf (T := "function") ⟨_, kk _ _ hfI, hfc⟩ ?_)
  rw [if_pos (by decide)]
  refine wpAny_pure (wpAny_bind (wpAny_mono hq (fun r s' hr => ?_) fun zz zz x => x))
  obtain ⟨rfl, hQ⟩ := hr
  wp_walk
  exact hQ

theorem exc_call {rest : List Value} {fI : Addr} {oI : Obj} {Q : Value → Shared → Prop}
    (hC : h.get? C = some (excClassObj nm q C N bs bm hdct sn sub ab col dd k0 k1 k2 k3 k5 "Exception.__new__"))
    (cB : bm.contains (.type "Exception") = true) (cA : bm.contains (.type "AttributeError") = false) (cN : bm.contains (.type "NameError") = false)
    (hi : ∀ h', (∀ b o, h.get? b = some o → h'.get? b = some o) → Looks (model prog w) h' (typeLookup (.ref C) "__init__") (some (.ref fI)))
    (hfI : h.get? fI = some oI) (hfc : oI.cls = .type "function") (hrest : rest.length ≤ sizeLine)
    (hq : wpAny (model prog w) (A.under (.builtin "type.__call__" ⟨.ref C :: rest, []⟩)) (call (.ref fI) (.ref (h.objs.size + 1) :: rest)) (fun r s' => r = .none ∧ Q (.ref (h.objs.size + 1)) s') E ⟨excHeap h C rest, g, d, t, os⟩) :
    wpAny (model prog w) A (call (.ref C) rest) Q E ⟨h, g, d, t, os⟩ := by
  have f1 := tc_lookup
  have f2 := tc_bind (.ref C)
  have hT : (⟨h, g, d, t, os⟩ : Shared).TypeIs (.ref C) "type" := ⟨_, hC, rfl⟩
  refine wpAny_call (codeAny_of_tree ?_)
  show wpAny _ _ (callAny (.ref C) _) _ _ _
  repeat (any_goals (first | assumption | with_reducible refine wpAny_loadPart_at hC ?_ | wp_step))
  refine ⟨rfl, ?_⟩
  exact codeAny_call_builtin_at (Code.quiet_builtin _ (by decide +kernel)) entry_typeCall (wpAny_check_type_call_sub hC (exc_type_call hC cB cA cN hi hfI hfc hrest hq))

end
end Mine.Internal
end

section
open PySem PySem.W PyProof.Rows PySem.Calls PySem.SeqAt
set_option autoImplicit false
set_option maxRecDepth 100000
namespace Mine.Internal

variable {g : Pg} {P : Tab} {r : Rec}

structure InitOK (K : Frag) (fd : FuncData) : Prop where
  fn : ∃ fi iS iM, FnOk K fd fi ∧ codeIn K fd.code fd.qualname = true ∧ fi.params = [.name iS, .name iM] ∧ fi.cells = [] ∧ fi.dflts = [] ∧ nm[iS]? = some ("self" : Str) ∧ nm[iM]? = some ("message" : Str) ∧ (iS == iM) = false
  kS : kdOf fd.scope "self" = some .local
  kM : kdOf fd.scope "message" = some .local
  kE : kdOf fd.scope "Exception" = some .globalImplicit
  clo : fd.closure = []
  body : ∃ p1 p2 p3 p4 p5 p6 p7 p8 p9 p10, fd.body = .stmts [.Expr (.Call (.Attribute (.Name "Exception" p1) "__init__" p2) [.Name "self" p3, .Name "message" p4] [] p5) p6, .Assign [.Attribute (.Name "self" p7) "message" p8] (.Name "message" p9) p10] ∧ (p2.endLine == p5.line) = true
structure ExcOK (K : Frag) (C : Addr) : Prop where
  cls : ∃ nm q N bs sn sub ab col dd k0 k1 k2 k3 k5 Mk, K.lookup C = some (excClassObj nm q C N bs [.ref Mk, .type "Exception", .type "BaseException", .type "object"] true sn sub ab col dd k0 k1 k2 k3 k5 "Exception.__new__")
  init : ∃ fI oI fd, findIn K (.ref C) "__init__" = some (some (.ref fI)) ∧ K.lookup fI = some oI ∧ oI.cls = .type "function" ∧ oI.data = .func fd ∧ InitOK K fd
  sa : findIn K (.ref C) "__setattr__" = some (some (.builtin "object.__setattr__"))
  tk : takerIn K C "message" = some none
  exg : nsIn K mainGlobals "Exception" = some none
theorem cB4 (Mk : Addr) : ([.ref Mk, .type "Exception", .type "BaseException", .type "object"] : List Value).contains (.type "Exception") = true ∧ ([.ref Mk, .type "Exception", .type "BaseException", .type "object"] : List Value).contains (.type "BaseException") = true ∧
    ([.ref Mk, .type "Exception", .type "BaseException", .type "object"] : List Value).contains (.type "AttributeError") = false ∧ ([.ref Mk, .type "Exception", .type "BaseException", .type "object"] : List Value).contains (.type "NameError") = false := ⟨rfl, rfl, rfl, rfl⟩
structure TabX (P : Tab) (K : Frag) : Prop where
  exc : ∀ c, P.exc c = true → ExcOK K c

section
variable {A : Around} {X : Bx} {env : Env} {outer : List Env} {m : Str → Option Value} {s : Shared} {ρ : Rho} {σ : Hp} {f : Fr'} {kd : Kd} {E : Value → Shared → Prop} {Q : Flow → Shared → Prop}

theorem S_try (hr : SE g r) (TE : TabE g P X.G.K) (TX : TabX P X.G.K) {e : Expr} {e' : T} {x : Str} {ci : Nat} {b : Bool} {k : Nat} {q q₁ q₂ q₃ q₄ p : Pos} (hc : isComp e = false) (he : TrE kd e e') (hx : nm[ci]? = some x) (hk : kd x = some .globalImplicit)
    (γ : Gr g A X env outer f.dep) (W : EnvOK X env kd) (at_ : At X m s ρ σ) (lc : Loc X env m s.heap ρ f) (tk : 0 < s.toks)
    (C : ContS X (env :: outer) env f s ρ (match r.ev e' f σ with
      | .ok _ h => .ok (.next, f.loc) h
      | .ex k _ h => match P.glob ci with
        | some (.top c) => if k = c ∧ P.exc c = true then .ok (.ret (.bool b), f.loc) h else .no
        | _ => .no
      | .no => .no) Q E) :
    wpAny (model g.prog g.w) A (exec (.Try [.Expr e q] [.ExceptHandler (some (.Name x q₁)) none [.Return (some (.Constant (.bool b) k q₂)) q₃] q₄] [] [] p) env) Q E s := by
  refine wpAny_Try_except (wpAny_execs_cons (wpAny_Expr_any (hr _ _ _ _ _ _ _ _ _ _ _ _ _ _ _ he γ W at_ lc tk ?_) (notInter W.kind) (swaps_plain hc _ _ _)))
  generalize r.ev e' f σ = out at C ⊢
  cases out with
  | no => exact C.elim
  | ok v σ' =>
    intro w s' ρ' a y _
    exact wpAny_execs_nil (wpAny_execs_nil (C .next s' ρ' m a rfl (lc.after at_ a)))
  | ex c mv σ' =>
    dsimp only at C
    obtain ⟨c', hg⟩ : ∃ c', P.glob ci = some (.top c') := by
      cases q : P.glob ci with
      | none => rw [q] at C; exact False.elim C
      | some v => cases v <;> first | exact ⟨_, rfl⟩ | (rw [q] at C; exact False.elim C)
    rw [hg] at C
    obtain ⟨hcc, D⟩ := ContS.if_ C
    clear C
    obtain ⟨rfl, hexc⟩ := hcc
    intro ea s' fl
    obtain ⟨⟨h', tk', rfl⟩, B, ρ', t, fl, up⟩ := fl
    obtain ⟨nm', q', N, bs, sn, sub, ab, col, dd, k0, k1, k2, k3, k5, Mk, hK⟩ := (TX.exc c hexc).cls
    have b1 := (cB4 Mk).2.1
    refine wpAny_looks_onW γ.fr γ.ff fl fun h₄ held₄ sm₄ => ?_
    refine wpAny_landsW held₄ fun h₅ fl₅ sm₅' => ?_
    have sm₅ := Heap.UpToSlots.trans sm₄ sm₅'
    have x₅ := up h₅ fl₅.1 sm₅
    have a₅ : At X m { s with heap := h₅, toks := tk' } ρ' σ' := (After.toks x₅.at_ tk').at_
    obtain ⟨z, w, e1, e2, e3⟩ := TE.glob ci _ hg
    rw [hx] at e1; cases e1
    cases e3
    obtain ⟨ob, hob, hobc⟩ := fl₅.there
    refine wpAny_handleBy_cons (codeAny_handlers_test (Name_function_global (s := { s with heap := h₅, toks := tk' }) W.kind ((W.kd x).trans hk) (loadGlobal_global (env := env) (by rw [W.glob]; exact γ.T.g.keeps a₅.fr.keep) (mg_of γ.K γ.T.g e2) ?_) (nm_nd hx).1)) (by intro q; cases q)
    have hC : h₅.get? c = some _ := a₅.fr.keep _ _ (γ.K _ _ hK)
    refine wpAny_excMatches_sub_self hC hob hobc b1 (codeAny_handlers_suite ?_)
    refine lands_againW fl₅ fun h₆ fl₆ sm₆ => ?_
    have x₆ := up h₆ fl₆.1 (Heap.UpToSlots.trans sm₅ sm₆)
    have x₆' : After X m s ρ { s with heap := h₆, toks := tk' } ρ' σ' := x₆.trans (After.toks x₆.at_ tk')
    refine wpAny_execs_cons (wpAny_Return_some (wpAny_pure (a := Value.bool b) ?_))
    exact D (.ret (.bool b)) _ ρ' m x₆' ⟨_, rfl, rfl⟩ (lc.after at_ x₆')
end
end Mine.Internal
end

section
open PySem PySem.W PyProof.Rows PySem.Calls
open Sem (wp)
open Builtin Builtin.ObjectAttr
set_option autoImplicit false
set_option maxRecDepth 100000
namespace Mine.Internal

section
variable {prog : Program} {w : World} {A : Around} {E : Value → Shared → Prop} {h : Heap} {g : Array GenState} {d : Drawn} {t : Nat} {os : OsState}
variable {nm q : Str} {C N : Addr} {bs bm : List Value} {hdct : Bool} {sn : List Str} {sub : List Value} {ab : Bool} {col : Option Bool} {dd : Option Addr} {k0 k1 k2 k3 k5 : Option Value}

theorem exc_check_init {M : Model} {e : Addr} {oe : Obj} {rest : List Value} {Q : Unit → Shared → Prop}
    (hC : h.get? C = some (excClassObj nm q C N bs bm hdct sn sub ab col dd k0 k1 k2 k3 k5 "Exception.__new__")) (cB : bm.contains (.type "Exception") = true) (he : h.get? e = some oe) (hcls : oe.cls = .ref C) (hq : Q () ⟨h, g, d, t, os⟩) :
    wpAny M A (checkBuiltinCall "Exception.__init__" ⟨.ref e :: rest, []⟩) Q E ⟨h, g, d, t, os⟩ := by
  have Fn := F.excBase_Exception
  have hcB : (Value.ref C :: bm).contains (.type "Exception") = true := by rw [List.contains_cons, cB, Bool.or_true]
  have hshort := Fn.noStar
  simp only [checkBuiltinCall, Fn.initKind, Fn.initSplit, Fn.initRow]
  repeat (first | (with_reducible refine wpAny_loadPart_at he ?_; rw [hcls]) | with_reducible refine wpAny_loadPart_at hC ?_ | (with_reducible refine wpAny_isSubtype_exc hC ?_; rw [hcB]) | wp_step)
  refine wpAny_onRaise ?_
  rw [show ∀ (a b : String) (n : Nat), Bind.check ⟨.positional, "*", "Exception", .self, [⟨"args", .varPos, false⟩]⟩ a b n (List.map (fun x => x.fst) ({ pos := Value.ref e :: rest } : Args).kw) = pure () from
    fun a b n => check_star_args _ _ _ _ _ _]
  exact wpAny_pure hq

theorem exc_base_init {e t0 : Addr} {v : Value} {Q : Value → Shared → Prop}
    (hC : h.get? C = some (excClassObj nm q C N bs bm hdct sn sub ab col dd k0 k1 k2 k3 k5 "Exception.__new__")) (cB : bm.contains (.type "Exception") = true) (he : h.get? e = some (excObj C t0 none))
    (hq : ∀ h' t1, (∀ c o, c ≠ e → h.get? c = some o → h'.get? c = some o) → h'.get? e = some (excObj C t1 none) → Q .none ⟨h', g, d, t, os⟩) :
    wpAny (model prog w) A (call (.builtin "Exception.__init__") [.ref e, v]) Q E ⟨h, g, d, t, os⟩ := by
  have Fn := F.excBase_Exception
  refine wpAny_call (codeAny_call_builtin Fn.init.plain Fn.initEntry (exc_check_init hC cB he rfl ?_))
  have hrest : [v].length ≤ sizeLine := by rw [sizeLine_eq]; simp
  wp_walk
  refine hq _ h.objs.size (fun c o hc e' => ?_) ?_
  · rw [Heap.get?_update_other _ _ (Ne.symm hc)]
    exact Heap.get?_push_of_some _ e'
  · rw [Heap.get?_update_self _ (Heap.get?_push_of_some _ he) rfl]
    rfl

theorem exc_inst {e t0 : Addr} (he : h.get? e = some (excObj C t0 none)) : InstAt h e (excObj C t0 none) C none := ⟨he, rfl, rfl, trivial⟩

theorem exc_store {K : Frag} {e t0 : Addr} {name : Str} {v : Value} {Q : Unit → Shared → Prop} {cd : ClassData} {Mk : Addr} (X : K.In h) (he : h.get? e = some (excObj C t0 none))
    (hs : findIn K (.ref C) "__setattr__" = some (some (.builtin "object.__setattr__"))) (ht : takerIn K C name = some none) (hc : clsIn K C = some cd) (hm : cd.mro = [.ref C, .ref Mk, .type "Exception", .type "BaseException", .type "object"]) (hd : cd.hasDict = true)
    (hq : ∀ h' t' dx, (∀ c o, c ≠ e → h.get? c = some o → h'.get? c = some o) → h'.get? e = some (excObj C t0 (some dx)) → t ≤ t' → Q () ⟨h', g, d, t', os⟩) :
    wpAny (model prog w) A (setAttr (.ref e) name v) Q E ⟨h, g, d, t, os⟩ := by
  have I := exc_inst he
  refine set_plain (s := ⟨h, g, d, t, os⟩) X I hs ?_
  have SF := PySem.F.store_object
  have ne : cd.mro.isEmpty = false := by rw [hm]; rfl
  have hcont : cd.mro.contains (.type "object") = true := by rw [hm]; simp
  have sub : Looks (model prog w) h (isInstance (.ref e) (.type "object")) true := I.type.andThen (looks_mroIn X (by unfold mroIn; rw [hc, Option.bind_some, if_neg (by rw [ne]; decide), hcont]))
  refine codeAny_call_builtin SF.slot.plain SF.entry (@check_slot (model prog w) _ _ ⟨h, g, d, t + 1, os⟩ "object.__setattr__" "object" "__setattr__" (.ref e) [.str name t, v] [] _ SF.kind SF.split sub (SF.args (.ref e) (.str name t) v) ?_)
  obtain ⟨attr, ha, hr⟩ := Option.bind_eq_some_iff.mp ht
  have hmro : Looks (model prog w) h (mroOf (.ref C)) cd.mro := (looks_clsIn X hc).andThen .now
  have L3 : Looks (model prog w) h (storeTaker? attr) none := by
    cases attr with
    | none => exact .now
    | some a =>
      obtain ⟨b, hb, e1⟩ := Option.map_eq_some_iff.mp hr
      refine (looks_takesIn X hb).andThen ?_
      cases b
      · exact .now
      · cases e1
  rw [osa_eq, refuse_eq]
  refine wpAny_bind (wpAny_bind (I.type.here (wpAny_bind (hmro.here ?_))))
  rw [hm, refuseLoop_ref, refuseLoop_ref, PySem.F.store_Exception.passes]
  refine wpAny_pure (wpAny_bind (I.type.here (wpAny_bind ((looks_findIn X ha).here (wpAny_bind (L3.here ?_))))))
  dsimp only
  unfold storeInOwnDict
  refine wpAny_bind (wpAny_pure ?_)
  rw [show (Value.ref C == Value.type "module") = false from rfl, if_neg Bool.false_ne_true]
  refine wpAny_bind ?_
  show wpAny _ _ (instanceDict e true) _ _ _
  unfold instanceDict
  refine wpAny_bind (wpAny_loadPart he ?_)
  dsimp only
  have hx₁ : (h.push { cls := .type "dict", data := .dict #[] }).get? e = some (excObj C t0 none) := Heap.get?_push_of_some _ he
  have hxs : e ≠ h.objs.size := Nat.ne_of_lt (Heap.lt_size he)
  refine wpAny_bind ((looks_clsIn X hc).here ?_)
  rw [hd]
  rw [if_neg (by simp), if_neg (by simp [typeHasDict])]
  refine wpAny_bind (wpAny_alloc' (wpAny_bind (wpAny_update' hx₁ (wpAny_pure ?_))))
  have hgd : ((h.push { cls := .type "dict", data := .dict #[] }).update e fun o => { cls := o.cls, dict := some h.objs.size, data := o.data, slots := o.slots }).get? h.objs.size
      = some { cls := .type "dict", data := .dict #[] } :=
    (Heap.get?_update_ne _ _ _ _ hxs.symm).trans (Heap.get?_push_at rfl rfl)
  have hnd : ((h.push { cls := .type "dict", data := .dict #[] }).update e fun o => { cls := o.cls, dict := some h.objs.size, data := o.data, slots := o.slots }).Ns h.objs.size (fun zz => none) :=
    ⟨_, #[], _, hgd, rfl, fun e he => absurd he (by simp), fun zz => rfl⟩
  show wpAny _ _ (storeInDict h.objs.size (.str name t) name v) _ _ _
  unfold storeInDict newKeyGuard
  refine wpAny_bind (wpAny_pure (wpAny_bind (wpAny_nsSet1 (Heap.Ns1.of_empty hnd) fun h' hn' hs => ?_)))
  obtain ⟨oD, esD, epD, hoD, hdD, hcD⟩ := hn'.count (Within.cons name v Within.nil)
  refine wpAny_bind (wpAny_lookBehind hoD (by rw [hdD]; exact pastItsLine_dict (Nat.le_trans hcD (by rw [List.length_cons, List.length_nil, sizeLine_eq]; omega))) ?_)
  refine wpAny_pure ?_
  refine hq h' _ h.objs.size (fun c o hc' e' => ?_) ?_ (by show t ≤ t + 1 + 1; omega)
  · exact (hs.2 c (Nat.ne_of_lt (Heap.lt_size e'))).trans ((Heap.get?_update_ne _ _ _ _ hc').trans (Heap.get?_push_of_some _ e'))
  · exact (hs.2 e hxs).trans (Heap.get?_update_self _ hx₁ rfl)
end
end Mine.Internal
end

section
open PySem PySem.W PyProof.Rows PySem.Calls PySem.SeqAt
set_option autoImplicit false
set_option maxRecDepth 100000
namespace Mine.Internal

variable {g : Pg} {P : Tab} {r : Rec}

section
variable {A : Around} {X : Bx} {fenv : Env} {outer : List Env} {m : Str → Option Value} {s : Shared} {ρ : Rho} {σ : Hp}

theorem enter_fn {R : Result → Shared → Prop} {d : Nat} {fi : FI} {cel : List (Nat × Nat)} {vs : List V} {ws : List Value} {a : Addr} {o : Obj} {fd : FuncData} (γ : Gr g A X fenv outer d) (hdep : d < 60) (at_ : At X m s ρ σ) (ho : s.heap.get? a = some o) (hd : o.data = .func fd) (ok : FnOk X.G.K fd fi) (hcr : s.heap.CodeRec fd.code fd.qualname)
    (hc : CelRel ρ cel fd.closure) (Vw : VRs X.G s.heap ρ vs ws) (hdf : fi.dflts = []) (hlen : vs.length = fi.params.length) {l : List (Nat × V)} {σ₁ : Hp} (hasg : asgTs ⟨[], (mkCells fi.cells cel σ).1, d + 1⟩ (mkCells fi.cells cel σ).2 fi.params vs = some (l, σ₁))
    (run : ∀ body oL env m₂ s₂ ρ₂, fd.body = .stmts body → s.heap.get? X.L = some oL → EnvOK (X.push s.heap.objs.size oL) env (kdOf fd.scope) → env.locals = s.heap.objs.size → Gr g (A.deeper env) (X.push s.heap.objs.size oL) env (fenv :: outer) (d + 1) →
      After (X.push s.heap.objs.size oL) m₂ { s with heap := s.heap.push frameObj } ρ s₂ ρ₂ σ₁ → Loc (X.push s.heap.objs.size oL) env m₂ s₂.heap ρ₂ ⟨l, (mkCells fi.cells cel σ).1, d + 1⟩ → s.toks ≤ s₂.toks →
      wpAny (model g.prog g.w) (A.deeper env) (execs body env) (fun f s' => R (.ok (.ret (match f with | .ret v => v | _ => .none))) s')
        (fun e s' => wpAny (model g.prog g.w) (A.deeper env) (leaving env e) (fun zz s'' => R (.error e) s'') (fun e' s'' => R (.error e') s'') s') s₂) :
    codeAny (model g.prog g.w) A (.call (.ref a) ⟨ws, []⟩) R s := by
  obtain ⟨body, hbody, tr⟩ := ok.body
  have XK := γ.K.keeps at_.fr.keep
  obtain ⟨wd, hwd, hseq⟩ := dflt_ok XK ok.dflt (s := s) rfl
  have Vd := GVs.vrs (G := X.G) (ρ := ρ) XK (fun zz zz e => at_.nbad₀ (γ.K _ _ e)) _ _ hwd
  have en : fi.params.length = fd.params.args.length := by rw [← tr.params.length]; simp
  have enn : fd.params.args.length = (fd.params.args.map (·.arg)).length := by simp
  have ea := Vw.length
  have ed := Vd.length
  rw [hdf] at ed
  have ed' : wd.length = 0 := by simpa using ed.symm
  have hwd0 : wd = [] := List.eq_nil_of_length_eq_zero ed'
  subst hwd0
  have hbind := binds_gen (s := s) (fd := fd) (ws := ws) (ds := []) tr.pos tr.va tr.kwo tr.kwa rfl tr.nodup hseq (by omega) (Nat.zero_le _) (by simp; omega)
  simp only [List.drop_nil, List.append_nil] at hbind
  obtain ⟨oL, hL⟩ := at_.frame
  have hdp := γ.depth
  have hun := γ.units
  refine codeAny_call_function (by show A.depth < 1000; omega) ho hd tr.co tr.gen hbody hcr (hbind _ _ _ _ ?_)
  refine wpAny_bind (wpAny_alloc (wpAny_bind ?_))
  have at0 := at_.enter hL
  refine cells_ok _ (fun name kind cells => by cases hkc : kind == NameKind.cell <;> simp [hkc]) fd.scope.names fi.cells cel fd.closure _ tr.cells at0 hc fun s₁ ρ₁ cells₁ x₁ hc₁ k₁ => ?_
  have V₁ := x₁.vrs at0 (VRs.mono (h' := s.heap.push frameObj) (ρ' := ρ) (fun b ws' zz t => by obtain ⟨o, e, r⟩ := t; exact ⟨o, Heap.get?_push_of_some _ e, r⟩) (fun zz zz zz zz zz t => Heap.get?_push_of_some _ t) (fun zz zz t => t) _ _ Vw)
  let env : Env := { scope := fd.scope, locals := s.heap.objs.size, globals := fd.globals, cells := cells₁, qual := fd.qualname ++ ".<locals>.", func := some a, code := fd.code, frame := some s.heap.objs.size, builtins := fd.builtins }
  have W : EnvOK (X.push s.heap.objs.size oL) env (kdOf fd.scope) := ⟨tr.kind, ok.glob, fun zz => rfl, rfl, ok.bltn⟩
  have c₁ : Loc (X.push s.heap.objs.size oL) env (fun zz => none) s₁.heap ρ₁ ⟨[], (mkCells fi.cells cel σ).1, d + 1⟩ := ⟨⟨_, .inl ⟨rfl, rfl⟩, fun x v e => no_some e⟩, hc₁⟩
  refine wpAny_bind (binds_ok (env := env) W rfl _ (fun zz zz zz => rfl) tr.params x₁.at_ c₁ V₁ hasg fun m₂ s₂ st => wpAny_pure ?_)
  have xx := x₁.trans st.after
  obtain ⟨h₂, t₂, e₂⟩ := xx.eq
  refine ⟨γ.T.nolimit.keeps xx.at_.fr.keep, codeAny_func ?_⟩
  have γ' : Gr g (A.deeper env) (X.push s.heap.objs.size oL) env (fenv :: outer) (d + 1) :=
    ⟨γ.K, γ.T, γ.scr, Around.frames_deeper γ.fr, rfl, tr.kind, ⟨⟨γ.ff, γ.fk⟩, γ.out⟩, γ.hh, by show A.depth + 1 ≤ _; omega, by show A.units + 3 ≤ _; omega, by exact Nat.succ_le_of_lt ‹_›, γ.kk⟩
  have k₂ := st.toks
  have k₁' : s.toks ≤ s₁.toks := k₁
  exact run body oL env m₂ s₂ ρ₁ hbody hL W rfl γ' xx st.loc (om23 ‹_› ‹_›)
end
end Mine.Internal
end

section
open PySem PySem.W PyProof.Rows PySem.Calls PySem.SeqAt
set_option autoImplicit false
set_option maxRecDepth 100000
namespace Mine.Internal

variable {g : Pg} {P : Tab} {r : Rec}

section
variable {A : Around} {X : Bx} {fenv : Env} {outer : List Env} {m m' : Str → Option Value} {s s₁ s' : Shared} {ρ ρ' : Rho} {σ σ' : Hp} {E : Value → Shared → Prop}

theorem At.leave' (a : At X m s₁ ρ σ) {oL : Obj} {L' : Addr} (hL : s₁.heap.get? X.L = some oL) (hs : s.heap.get? L' = none) (x : After (X.push L' oL) m' s ρ s' ρ' σ') : After X m s ρ s' ρ' σ' := by
  obtain ⟨h', tk', e0⟩ := x.eq
  have oo := fun q hq => x.at_.out q (.tail _ hq)
  obtain ⟨sl, eL⟩ := x.at_.out (X.L, oL) (.head _)
  have Fn : s'.heap.Ns X.L m := by
    obtain ⟨o, es, n, e, d, r⟩ := a.fr.ns
    rw [hL] at e; cases e
    exact ⟨_, es, n, eL, d, r⟩
  refine ⟨⟨h', tk', e0⟩, ⟨⟨Fn, x.at_.fr.keep, a.fr.above⟩, ⟨x.at_.rel.len, x.at_.rel.obj, fun p hp => ⟨(x.at_.rel.new p hp).1, fun q => (x.at_.rel.new p hp).2 (.tail _ q)⟩, x.at_.rel.nod, fun b hb => x.at_.rel.mutF b (.tail _ hb)⟩, oo, a.apart, x.at_.bad⟩, ?_⟩
  refine ⟨x.ext.pre, fun b o e hb hf => x.ext.keep b o e hb fun q => ?_⟩
  rcases List.mem_cons.mp q with q | q
  · rw [q, hs] at e; cases e
  · exact hf q

theorem lk_self {iS iM : Nat} {a b : V} (h : (iS == iM) = false) : lk iS (put iM b (put iS a [])) = some a := by
  have h1 : Nat.beq iM iS = false := by
    have : iS ≠ iM := by simpa using h
    exact beqN (Ne.symm this)
  change lk iS (if Nat.beq iM iS then [(iS, b)] else [(iS, a), (iM, b)]) = _
  rw [h1]
  change (if Nat.beq iS iS then some a else _) = _
  rw [Nat.beq_refl]; rfl
theorem lk_msg {iS iM : Nat} {a b : V} (h : (iS == iM) = false) : lk iM (put iM b (put iS a [])) = some b := by
  have h1 : Nat.beq iM iS = false := by
    have : iS ≠ iM := by simpa using h
    exact beqN (Ne.symm this)
  have h2 : Nat.beq iM iM = true := Nat.beq_refl iM
  change lk iM (if Nat.beq iM iS then [(iS, b)] else [(iS, a), (iM, b)]) = _
  rw [h1]
  change (if Nat.beq iM iS then some a else if Nat.beq iM iM then some b else none) = _
  rw [h1, h2]; rfl
theorem exc_boot : bootBuiltins "Exception" = some (.type "Exception") := by rfl
theorem exc_findI (K : Frag) : findCls K (.type "Exception") (.type "type") "__init__" = some (.val (.builtin "Exception.__init__")) := by rfl
theorem exc_nst : Manifest.isStub "Exception" = false := by rfl
theorem exc_tyt : typeOf (.type "Exception") = pure (.type "type") := by rfl
theorem cls_of {K : Frag} {C : Addr} {nm q : Str} {N : Addr} {bs : List Value} {sn sub ab col dd k0 k1 k2 k3 k5 Mk} (hK : K.lookup C = some (excClassObj nm q C N bs [.ref Mk, .type "Exception", .type "BaseException", .type "object"] true sn sub ab col dd k0 k1 k2 k3 k5 "Exception.__new__")) :
    ∃ cd, clsIn K C = some cd ∧ cd.mro = [.ref C, .ref Mk, .type "Exception", .type "BaseException", .type "object"] ∧ cd.hasDict = true := by
  unfold clsIn
  rw [hK]
  exact ⟨_, rfl, rfl, rfl⟩
theorem E_exc {C : Addr} {d : Nat} (TX : ExcOK X.G.K C) (γ : Gr g A X fenv outer d) (hdep : d < 50) (at_ : At X m s ρ σ) {l : List Nat} {tk : Tok} {Q : Value → Shared → Prop}
    (hq : ∀ e s' ρ', After X m s ρ s' ρ' σ → Side X s ρ' s'.heap e → (∃ t dx, s'.heap.get? e = some (excObj C t dx)) → s.toks ≤ s'.toks → Q (.ref e) s') :
    wpAny (model g.prog g.w) A (PySem.call (.ref C) [.str ⟨l.toArray⟩ tk]) Q E s := by
  obtain ⟨nm', q', N, bs, sn, sub, ab, col, dd, k0, k1, k2, k3, k5, Mk, hK⟩ := TX.cls
  obtain ⟨fI, oI, fd, hfi, hoI, hIc, hId, IO⟩ := TX.init
  obtain ⟨b1, b2, b3, b4⟩ := cB4 Mk
  obtain ⟨hh, gg, dr, t, os⟩ := s
  have XK : X.G.K.In hh := γ.K.keeps at_.fr.keep
  have hC : hh.get? C = some _ := XK _ _ hK
  refine exc_call hC b1 b3 b4 (fun h' k => looks_findIn (XK.keeps k) hfi) (XK _ _ hoI) hIc (by rw [sizeLine_eq]; simp) ?_
  let v : Value := .str ⟨l.toArray⟩ tk
  let ea : Addr := hh.objs.size + 1
  let s₀ : Shared := ⟨hh, gg, dr, t, os⟩
  let s₁ : Shared := ⟨excHeap hh C [v], gg, dr, t, os⟩
  have kk : ∀ b o, hh.get? b = some o → (excHeap hh C [v]).get? b = some o := fun b o e => Heap.get?_push_of_some _ (Heap.get?_push_of_some _ e)
  have he₁ : (excHeap hh C [v]).get? ea = some (excObj C hh.objs.size none) := by show (excHeap hh C [v]).get? (hh.objs.size + 1) = _; heap_get
  have x₁ : After X m s₀ ρ s₁ ρ σ := After.keep (s := s₀) (h' := excHeap hh C [v]) (tk' := t) at_ ((at_.fr.push _).push _) fun b o e zz => kk b o e
  have at₁ := x₁.at_
  have fresh : hh.get? ea = none := by
    cases q : hh.get? ea with
    | none => rfl
    | some o => exact absurd (Heap.lt_size q) (Nat.not_lt.mpr (Nat.le_succ _))
  obtain ⟨fi, iS, iM, ok, hcdK, hpar, hcel, hdf, hS, hM, hne⟩ := IO.fn
  have hne' : iS ≠ iM := fun q => by rw [q] at hne; simp at hne
  have γ₁ : Gr g (A.under (Code.builtin "type.__call__" ⟨.ref C :: [v], []⟩)) X fenv outer (d + 1) := by
    have w1 := cls_weight C [v]
    have w2 := cls_units C [v]
    have w3 := γ.depth
    have w4 := γ.units
    refine ⟨γ.K, γ.T, γ.scr, ?_, γ.ff, γ.fk, γ.out, γ.hh, ?_, ?_, by exact om16 ‹_› rfl, γ.kk⟩
    · show pushEnvs (Code.builtin "type.__call__" ⟨.ref C :: [v], []⟩).envs A.frames = _
      rw [cls_frames]; exact γ.fr
    · show A.depth + _ ≤ _
      omega
    · show A.units + _ ≤ _
      omega
  refine wpAny_call (enter_fn (s := s₁) (vs := [.top ea, .str l]) (l := put iM (.str l) (put iS (.top ea) [])) (σ₁ := σ) (cel := []) (fi := fi) γ₁ (by omega) at₁ (kk _ _ (XK _ _ hoI)) hId ok (codeRec_of (γ.K.keeps at₁.fr.keep) hcdK) (by rw [IO.clo]; exact fun x n e => no_some e)
    ⟨rfl, ⟨tk, rfl⟩, trivial⟩ hdf (by rw [hpar]; rfl) (by rw [hcel, hpar]; rfl) fun body oL env m₂ s₂ ρ₂ hbody hL W hloc γ₂ x₂ c₂ kt₂ => ?_)
  obtain ⟨p1, p2, p3, p4, p5, p6, p7, p8, p9, p10, hb, hline⟩ := IO.body
  rw [hb] at hbody
  cases hbody
  have W : EnvOK (X.push (excHeap hh C [v]).objs.size oL) env (kdOf fd.scope) := W
  have fa' : ea ∉ (X.push (excHeap hh C [v]).objs.size oL).fa := fun q => by
    rcases List.mem_cons.mp q with q | q
    · exact absurd q (Nat.ne_of_lt (Heap.lt_size he₁))
    · rcases List.mem_cons.mp q with q | q
      · obtain ⟨o, es, n, e1, zz⟩ := at_.fr.ns
        have q' : ea = X.L := q
        rw [q', show hh.get? X.L = some o from e1] at fresh; cases fresh
      · obtain ⟨pp, hp, e1⟩ := List.mem_map.mp q
        obtain ⟨sl, e2⟩ := at_.out pp hp
        rw [e1] at e2
        have e2 : hh.get? ea = _ := e2
        rw [fresh] at e2; cases e2
  have rho' : ∀ p ∈ ρ, p.2 ≠ ea := fun p hp q => by
    obtain ⟨o, e1, zz⟩ := at_.rel.mut hp
    rw [q] at e1
    have e1 : hh.get? ea = _ := e1
    rw [fresh] at e1; cases e1
  let X' := X.push (excHeap hh C [v]).objs.size oL
  have at0 := at₁.enter hL
  have xx : After X' m₂ s₀ ρ s₂ ρ₂ σ := by
    obtain ⟨h', tk', e0⟩ := x₂.eq
    refine ⟨⟨h', tk', e0⟩, x₂.at_, Ext.trans ⟨⟨[], by simp, fun zz hp => nomatch hp⟩, fun b o e zz zz => Heap.get?_push_of_some _ (kk b o e)⟩ x₂.ext at0.rel⟩
  have he₂ : s₂.heap.get? ea = some (excObj C hh.objs.size none) := x₂.ext.keep _ _ (Heap.get?_push_of_some _ he₁) rho' fa'
  have base : X.h₀.get? ea = none := by
    cases q : X.h₀.get? ea with
    | none => rfl
    | some o => rw [show hh.get? ea = some o from at_.fr.keep _ _ q] at fresh; cases fresh
  have nv : ∀ t dx, NotVal (excObj C t dx) := fun t dx => ⟨fun zz zz q => (by cases q), fun q => (by cases q), fun q => (by cases q), fun zz e q t h => by cases e; cases h⟩
  have S₂ : Side X' s₀ ρ₂ s₂.heap ea := by
    refine ⟨base, fresh, fa', fun p hp => ?_, ⟨_, he₂, nv _ _⟩, at_.nbad fresh⟩
    obtain ⟨t, e, ht⟩ := x₂.ext.pre
    rw [e] at hp
    rcases List.mem_append.mp hp with hp | hp
    · exact rho' p hp
    · intro q; have := ht p hp; rw [q, show ({ s₁ with heap := s₁.heap.push frameObj } : Shared).heap.get? ea = _ from Heap.get?_push_of_some _ he₁] at this; cases this
  have own := c₂.own hloc
  have nself : m₂ "self" = some (.ref ea) := by
    obtain ⟨z, w, e1, e2, e3⟩ := own iS (.top ea) (lk_self hne)
    rw [hS] at e1; cases e1
    rw [e2, show w = .ref ea from e3]
  have nmsg : ∃ tm, m₂ "message" = some (.str ⟨l.toArray⟩ tm) := by
    obtain ⟨z, w, e1, e2, tm, e3⟩ := own iM (.str l) (lk_msg hne)
    rw [hM] at e1; cases e1
    exact ⟨tm, by rw [e2, e3]⟩
  obtain ⟨tm, nmsg⟩ := nmsg
  have dS : (("self" : Str) == ("__debug__" : Str)) = false := by decide
  have dM : (("message" : Str) == ("__debug__" : Str)) = false := by decide
  have dE : (("Exception" : Str) == ("__debug__" : Str)) = false := by decide
  have Tr2 : TrEs (kdOf fd.scope) [.Name "self" p3, .Name "message" p4] [.var iS, .var iM] := .cons (.var hS IO.kS) (.cons (.var hM IO.kM) .nil)
  have tS : ∀ {t : Shared} {p : Pos} {Q E}, t.heap.Ns env.locals m₂ → Q (.ref ea) t → wpAny (model g.prog g.w) (A.under (Code.builtin "type.__call__" ⟨.ref C :: [v], []⟩) |>.deeper env) (eval (.Name "self" p) env) Q E t := fun hn h =>
    wpAny_Name (wpAny_loadName_local W.kind ((W.kd _).trans IO.kS) hn nself h) dS
  have tM : ∀ {t : Shared} {p : Pos} {Q E}, t.heap.Ns env.locals m₂ → Q (.str ⟨l.toArray⟩ tm) t → wpAny (model g.prog g.w) (A.under (Code.builtin "type.__call__" ⟨.ref C :: [v], []⟩) |>.deeper env) (eval (.Name "message" p) env) Q E t := fun hn h =>
    wpAny_Name (wpAny_loadName_local W.kind ((W.kd _).trans IO.kM) hn nmsg h) dM
  have ns₂ : s₂.heap.Ns env.locals m₂ := by rw [hloc]; exact x₂.at_.fr.ns
  refine wpAny_execs_cons (wpAny_Expr_any ?_ (notInter W.kind) (swaps_plain rfl _ _ _))
  refine Call_meth (kd := kdOf fd.scope) rfl hline Tr2 (Nat.lt_of_sub_eq_succ rfl) ?_
  refine Name_function_global W.kind ((W.kd _).trans IO.kE) (loadGlobal_builtin (env := env) (by rw [W.glob]; exact γ₂.T.g.keeps x₂.at_.fr.keep) (mg_none_of γ₂.K γ₂.T.g TX.exg) (by rw [W.bltn]; exact γ₂.T.b.keeps x₂.at_.fr.keep)
    ((γ₂.T.builtins _ (by decide)).trans (exc_boot)) ?_) dE
  refine method_type x₂.at_.fr γ₂.K exc_tyt exc_nst (exc_findI _) rfl ?_
  refine callWith_go Tr2 (Nat.lt_of_sub_eq_succ rfl) (wpAny_items_cons (tS ns₂ (wpAny_items_cons (tM ns₂ (wpAny_items_nil (wpAny_pure ?_))))))
  have XK₂ : X.G.K.In s₂.heap := γ₂.K.keeps x₂.at_.fr.keep
  refine exc_base_init (h := s₂.heap) (t := s₂.toks + 1) (XK₂ _ _ hK) b1 he₂ fun h₃ t1 k₃ he₃ => ?_
  have x₃ : After X' m₂ s₀ ρ { s₂ with heap := h₃, toks := s₂.toks + 1 } ρ₂ σ := xx.side S₂ k₃
  have S₃ : Side X' s₀ ρ₂ h₃ ea := ⟨S₂.base, S₂.new, S₂.fa, S₂.rho, ⟨_, he₃, nv _ _⟩, S₂.bad⟩
  have ns₃ : h₃.Ns env.locals m₂ := by rw [hloc]; exact x₃.at_.fr.ns
  refine wpAny_execs_cons (plainObj_wpAny_Assign_Attribute (tM ns₃ (tS ns₃ ?_)) (swaps_plain rfl _ _ _))
  obtain ⟨cd, hcd, hmro, hdict⟩ := cls_of hK
  refine exc_store (h := h₃) (t := s₂.toks + 1) (γ₂.K.keeps x₃.at_.fr.keep) he₃ TX.sa TX.tk hcd hmro hdict fun h₄ t' dx k₄ he₄ hle => ?_
  have x₄ : After X' m₂ s₀ ρ { s₂ with heap := h₄, toks := t' } ρ₂ σ := x₃.side S₃ k₄
  refine wpAny_execs_nil ?_
  have S₄ : Side X' s₀ ρ₂ h₄ ea := ⟨S₂.base, S₂.new, S₂.fa, S₂.rho, ⟨_, he₄, nv _ _⟩, S₂.bad⟩
  have fL : s₀.heap.get? (excHeap hh C [v]).objs.size = none := by
    cases q : hh.get? (excHeap hh C [v]).objs.size with
    | none => rfl
    | some o => exact absurd (Heap.lt_size (kk _ _ q)) (Nat.lt_irrefl _)
  refine ⟨rfl, hq _ _ _ (At.leave' at₁ hL fL x₄) ⟨S₄.base, S₄.new, fun q => S₄.fa (.tail _ q), S₄.rho, S₄.obj, S₄.bad⟩ ⟨_, _, he₄⟩ ?_⟩
  have : t ≤ s₂.toks := kt₂
  show t ≤ t'
  omega
end
end Mine.Internal
end

section
open PySem PySem.W PyProof.Rows PySem.Calls PySem.SeqAt
set_option autoImplicit false
set_option maxRecDepth 100000
namespace Mine.Internal

variable {g : Pg} {P : Tab} {r : Rec}

section
variable {A : Around} {X : Bx} {env : Env} {outer : List Env} {m : Str → Option Value} {s : Shared} {ρ : Rho} {σ : Hp} {f : Fr'} {kd : Kd} {E : Value → Shared → Prop} {Q : Flow → Shared → Prop}

theorem exc_raise' {prog : Program} {w : World} {K : Frag} {s : Shared} {env : Env} {x : Sem Value} {Q : Flow → Shared → Prop} (hh : A.handled = none)
    (h : wpAny (model prog w) A x (fun v s₁ => ∃ e C t dx, v = .ref e ∧ K.In s₁.heap ∧ ExcOK K C ∧
      s₁.heap.get? e = some (excObj C t dx) ∧ E (.ref e) s₁) E s) : wpAny (model prog w) A (raiseStmt env (some x) none) Q E s := by
  unfold raiseStmt
  refine wpAny_bind (wpAny_mono h (fun v s₁ h₁ => ?_) fun zz zz x => x)
  obtain ⟨e, C, t, dx, rfl, XK, TX, he, hE⟩ := h₁
  obtain ⟨nm', q', N, bs, sn, sub, ab, col, dd, k0, k1, k2, k3, k5, Mk, hK⟩ := TX.cls
  obtain ⟨b1, b2, b3, b4⟩ := cB4 Mk
  have hC := XK _ _ hK
  have hcB : (Value.ref C :: ([.ref Mk, .type "Exception", .type "BaseException", .type "object"] : List Value)).contains (.type "BaseException") = true := by rw [List.contains_cons, b2, Bool.or_true]
  obtain ⟨hp, g, d, tk, os⟩ := s₁
  repeat (first | with_reducible refine wpAny_loadPart_at he ?_ | with_reducible refine wpAny_loadPart_at hC ?_ | (with_reducible refine wpAny_isSubtype_exc hC ?_; rw [hcB]) | wp_step)
  exact wpAny_raiseNew_none hh hE

theorem S_raise (hr : SE g r) (TX : TabX P X.G.K) {x : Str} {a : Expr} {q p pr : Pos} {c' a' : T} (hc : TrE kd (.Name x q) c') (ha : TrE kd a a')
    (γ : Gr g A X env outer f.dep) (W : EnvOK X env kd) (at_ : At X m s ρ σ) (lc : Loc X env m s.heap ρ f) (tk : 0 < s.toks)
    (C : ContS X (env :: outer) env f s ρ ((r.ev c' f σ).bind fun g h => (r.ev a' f h).bind fun m h => match g, m with
    | .top c, .str l => if P.exc c ∧ f.dep < 50 then .ex c (.str l) h else .no
    | _, _ => .no) Q E) :
    wpAny (model g.prog g.w) A (exec (.Raise (some (.Call (.Name x q) [a] [] pr)) none p) env) Q E s := by
  have Tr1 : TrEs kd [a] [a'] := .cons ha .nil
  have hst : starEach [a] env = (false, eval a env) :: starEach [] env := ha.star [] env
  rw [arm_exec_Raise]
  refine wpAny_bind (wpAny_standAt ?_)
  refine exc_raise' (K := X.G.K) γ.hh ?_
  refine wpAny_bind (wpAny_mono (Q := fun v s₁ => ∃ e C t dx, v = .ref e ∧ X.G.K.In s₁.heap ∧ ExcOK X.G.K C ∧ s₁.heap.get? e = some (excObj C t dx) ∧ E (.ref e) s₁) (E := E) ?_ (fun v s₃ h₃ => wpAny_bind (wpAny_standAt (wpAny_pure h₃))) fun zz zz x => x)
  refine wpAny_Call_ofName (hr _ _ _ _ _ _ _ _ _ _ _ _ _ _ _ hc γ W at_ lc tk (C.bindE (RvA := VRc X) fun gv σ₁ wg s₁ ρ₁ zz x₁ V₁ C₁ k₁ => callWith_go Tr1 (Nat.lt_of_sub_eq_succ rfl) (wpAny_items_cons
    (hr _ _ _ _ _ _ _ _ _ _ _ _ _ _ _ ha γ W x₁.at_ (lc.after at_ x₁) (om22 ‹_› ‹_›) (C₁.bindE (RvA := VRc X) fun av σ₂ wa s₂ ρ₂ zz x₂ V₂ C₂ k₂ => wpAny_items_nil ?_)) hst)))
  obtain ⟨c, l, rfl, rfl⟩ : ∃ c l, gv = .top c ∧ av = .str l := by
    cases gv <;> first | exact False.elim C₂ | (cases av <;> first | exact False.elim C₂ | exact ⟨_, _, rfl, rfl⟩)
  obtain ⟨hcc, C₃⟩ := ContS.if_ C₂
  clear C₁ C₂
  have TC := TX.exc c hcc.1
  obtain ⟨nm', q', N, bs, sn, sub, ab, col, dd, k0, k1, k2, k3, k5, Mk, hK⟩ := TC.cls
  subst V₁
  obtain ⟨ta, rfl⟩ := V₂
  have XK : X.G.K.In s₂.heap := γ.K.keeps x₂.at_.fr.keep
  have hC := XK _ _ hK
  obtain ⟨hp, gg, d, tk₂, os⟩ := s₂
  refine wpAny_keeperOf_exc hC ?_
  refine E_exc TC γ hcc.2 x₂.at_ fun e s' ρ' x₃ S₃ ho hk => ?_
  obtain ⟨t, dx, ho⟩ := ho
  refine ⟨e, c, t, dx, rfl, γ.K.keeps x₃.at_.fr.keep, TC, ho, C₃ e s' m (.inr ⟨ρ', x₃, S₃, _, _, t, ho, rfl, rfl, rfl, rfl⟩)⟩
end
end Mine.Internal
end

section
open PySem PySem.W PyProof.Rows PySem.Calls PySem.SeqAt
set_option autoImplicit false
set_option maxRecDepth 100000
namespace Mine.Internal

variable {g : Pg} {P : Tab}

theorem TabX.at (Y : TabX P g.K) {A : Around} {X : Bx} {fenv : Env} {outer : List Env} {d : Nat} (γ : Gr g A X fenv outer d) : TabX P X.G.K := by
  rw [γ.kk.1]; exact Y

theorem S_step (Y : Tabs g P g.K g.kOf) (YX : TabX P g.K) {n : Nat} (hall : ∀ k, k < n → SE g (run P k) ∧ ST g (run P k) ∧ SX g (run P k)) (hr : SE g (run P n)) (ht : ST g (run P n)) (hx : SX g (run P n)) : SX g (run P (n + 1)) := by
  intro t f σ kd st A X env outer m s ρ Q E h γ W hL at_ c tk hE C
  change ContS X (env :: outer) env f s ρ (exF P (run P n) t f σ) (fun w s' => s.toks ≤ s'.toks → Q w s') E at C
  have YA := Y.at γ
  have YXA := YX.at γ
  refine wpAny_tkQ ?_
  have C1 : ContS X (env :: outer) env f s ρ ((run P (n + 1)).ex t f σ) (fun w s' => s.toks ≤ s'.toks → Q w s') E := C
  generalize (fun (a : Flow) (s' : Shared) => s.toks ≤ s'.toks → Q a s') = Q' at C C1 ⊢
  clear Q
  cases t with
  | expr =>
    obtain ⟨zz, zz, rfl, hc, he⟩ := h
    exact S_expr hr hc he γ W at_ c tk C
  | asg =>
    rcases h with ⟨_, _, _, rfl, hc, hT, htg, he⟩ | ⟨_, _, _, _, _, _, _, _, rfl, rfl, hcT, hx', hsw, he⟩
    · exact S_asg hr hc (hT.elim noSwap noSwapN) htg he γ W hL at_ c tk C
    · cases n with
      | zero => exact C.elim
      | succ n => exact S_asgC (fun k hk => ⟨(hall k (by omega)).1, (hall k (by omega)).2.1⟩) (hall n (by omega)).1 hx' hsw hcT he γ W hL at_ c tk C
  | asg2 =>
    obtain ⟨zz, zz, zz, zz, zz, zz, zz, zz, zz, zz, zz, rfl, hx', hy, hsw, ha, hb⟩ := h
    exact S_asg2 hr hx' hy hsw ha hb γ W hL at_ c tk C
  | setAttr =>
    obtain ⟨zz, zz, zz, zz, zz, rfl, hc, hf, ho, he⟩ := h
    exact S_setAttr hr YA.c hc hf ho he γ W at_ c tk C
  | setIdx =>
    obtain ⟨zz, zz, zz, zz, zz, rfl, hc, ho, hi, he⟩ := h
    exact S_setIdx hr hc ho hi he γ W at_ c tk C
  | aug =>
    obtain ⟨zz, zz, zz, zz, zz, rfl, hx', hk, ho, he⟩ := h
    exact S_aug hr hx' hk ho he γ W hL at_ c tk C
  | ret =>
    rcases h with ⟨_, rfl, rfl⟩ | ⟨_, _, _, rfl, rfl, he⟩
    · exact wpAny_Return_none (ContS.ok at_ C ⟨.none, rfl, rfl⟩ c)
    · exact S_ret hr he γ W at_ c tk C
  | ife =>
    obtain ⟨zz, zz, zz, zz, rfl, hc, ha, hb⟩ := h
    exact S_ife ht hx hc ha hb γ W hL hE at_ c tk C
  | «while» =>
    obtain ⟨zz, zz, zz, rfl, hc, hb⟩ := h
    exact S_while (n := n + 1) (fun k hk => by
      rcases Nat.lt_succ_iff_lt_or_eq.mp hk with q | rfl
      · exact ⟨(hall k q).2.1, (hall k q).2.2⟩
      · exact ⟨ht, hx⟩) hc hb γ W hL hE at_ c tk C1
  | «for» =>
    obtain ⟨zz, zz, zz, zz, rfl, htg, he, hb⟩ := h
    exact S_for (fun k hk => (hall k hk).2.2) hr htg he hb γ W hL hE at_ c tk C
  | forZip =>
    obtain ⟨zz, zz, zz, zz, zz, zz, zz, zz, rfl, hk, hz, hT, htg, ha, hc, hb⟩ := h
    exact S_zip (fun k hk => (hall k hk).2.2) hr YA.e hk hz hT htg ha hc hb γ W hL hE at_ c tk C
  | raise =>
    obtain ⟨zz, zz, zz, zz, zz, zz, zz, rfl, rfl, hc, ha⟩ := h
    exact S_raise hr YXA hc ha γ W at_ c tk C
  | «try» =>
    obtain ⟨zz, zz, zz, zz, zz, zz, zz, zz, zz, rfl, hc, he, hx', hk⟩ := h
    exact S_try hr YA.e YXA hc he hx' hk γ W at_ c tk C
  | defn => exact h.elim
  | junk => exact C.elim

theorem sound0 : SE g (run P 0) ∧ ST g (run P 0) ∧ SX g (run P 0) ∧ SC g (run P 0) := by
  refine ⟨?_, ?_, ?_, ?_⟩
  · intro t f σ kd e A X env fenv outer m s ρ Q E h γ W at_ c tk C; exact C.elim
  · intro t f σ kd e A X env fenv outer m s ρ Q E h γ W at_ c tk C; exact C.elim
  · intro t f σ kd st A X env outer m s ρ Q E h γ W hL at_ c tk hE C; exact C.elim
  · intro d gv as σ A X fenv outer m s ρ wg ws Q E γ at_ Vg Vw tk C; exact C.elim

theorem sound (Y : Tabs g P g.K g.kOf) (YX : TabX P g.K) : ∀ n, (∀ k, k ≤ n → SE g (run P k) ∧ ST g (run P k) ∧ SX g (run P k) ∧ SC g (run P k))
  | 0 => fun k hk => by
    have : k = 0 := by omega
    subst this; exact sound0
  | n + 1 => fun k hk => by
    have ih := sound Y YX n
    rcases Nat.lt_or_eq_of_le hk with q | rfl
    · exact ih k (by omega)
    · obtain ⟨hr, ht, hx, hc⟩ := ih n (Nat.le_refl _)
      have hE := E_step Y (fun k hk => ⟨(ih k (Nat.le_of_lt ‹_›)).1, (ih k (Nat.le_of_lt ‹_›)).2.1⟩) hr ht hc
      exact ⟨hE, T_step hr ht hE, S_step Y YX (fun k hk => ⟨(ih k (Nat.le_of_lt ‹_›)).1, (ih k (Nat.le_of_lt ‹_›)).2.1, (ih k (Nat.le_of_lt ‹_›)).2.2.1⟩) hr ht hx, C_step hx hc fun X A fenv outer d γ => (Y.at γ).f⟩
end Mine.Internal
end

section
open PySem PySem.W PyProof.Rows PySem.Calls PySem.SeqAt
set_option autoImplicit false
set_option maxRecDepth 100000
namespace Mine.Internal

noncomputable def fi_err_init : FI := { params := [Tg.name 4, Tg.name 5], dflts := [], cells := [], body := [S.expr (T.meth (T.glob 2) 3 [T.var 4, T.var 5]), S.setAttr (T.var 4) 5 (T.var 5)] }
noncomputable def intOf : Value → Option Int
  | .int i _ => some i
  | _ => none
theorem intOf_eq {w : Value} {i : Int} (h : intOf w = some i) : ∃ t, w = .int i t := by
  cases w <;> first | exact no_some h | exact ⟨_, by rw [Option.some.inj h]⟩
noncomputable def strOf : Value → Option (Array Nat)
  | .str s _ => some s.cps
  | _ => none
theorem strOf_eq {w : Value} {l : Array Nat} (h : strOf w = some l) : ∃ t, w = .str ⟨l⟩ t := by
  cases w <;> first | exact no_some h | (cases h; exact ⟨_, rfl⟩)
noncomputable def refOf : Value → Option Addr
  | .ref a => some a
  | _ => none
theorem refOf_eq {w : Value} {a : Addr} (h : refOf w = some a) : w = .ref a := by
  cases w <;> first | exact no_some h | (cases h; rfl)
noncomputable def seqOf : Data → Option (Array Value)
  | .seq ws _ => some ws
  | _ => none
theorem seqOf_eq {d : Data} {ws : Array Value} (h : seqOf d = some ws) : ∃ n, d = .seq ws n := by
  cases d <;> first | exact no_some h | (cases h; exact ⟨_, rfl⟩)
noncomputable def funcOf : Data → Option FuncData
  | .func fd => some fd
  | _ => none
theorem funcOf_eq {d : Data} {fd : FuncData} (h : funcOf d = some fd) : d = .func fd := by
  cases d <;> first | exact no_some h | (cases h; rfl)
noncomputable def objAt {α : Type} (K : Frag) (w : Value) (f : Data → Option α) : Option (Obj × α) := (refOf w).bind fun a => (K.lookup a).bind fun o => (f o.data).map fun x => (o, x)
theorem objAt_eq {α : Type} {K : Frag} {w : Value} {f : Data → Option α} {p : Obj × α} (h : objAt K w f = some p) : ∃ a, w = .ref a ∧ K.lookup a = some p.1 ∧ f p.1.data = some p.2 := by
  obtain ⟨a, e1, h⟩ := Option.bind_eq_some_iff.mp h
  obtain ⟨o, e2, h⟩ := Option.bind_eq_some_iff.mp h
  obtain ⟨x, e3, rfl⟩ := Option.map_eq_some_iff.mp h
  exact ⟨a, refOf_eq e1, e2, e3⟩
theorem and_tt {a b : Bool} (h : (a && b) = true) : a = true ∧ b = true := Bool.and_eq_true_iff.mp h
mutual
noncomputable def gvB (K : Frag) (v : V) (w : Value) : Bool := match v with
  | .int i => decide (intOf w = some i)
  | .str l => decide (strOf w = some l.toArray)
  | .top a => decide (refOf w = some a)
  | .tup vs => match objAt K w seqOf with
    | some p => decide (p.1.cls = .type "tuple") && gvsB K vs p.2.toList
    | none => false
  | _ => false
noncomputable def gvsB (K : Frag) (vs : List V) (ws : List Value) : Bool := match vs with
  | [] => ws.isEmpty
  | v :: vs => match ws with
    | [] => false
    | w :: ws => gvB K v w && gvsB K vs ws
end
mutual
theorem gv_of {K : Frag} : ∀ (v : V) (w : Value), gvB K v w = true → GV K v w
  | .int _ => fun zz h => intOf_eq (of_decide_eq_true h)
  | .str _ => fun zz h => strOf_eq (of_decide_eq_true h)
  | .top _ => fun zz h => refOf_eq (of_decide_eq_true h)
  | .tup vs => fun w h => by
    change (match objAt K w seqOf with
      | some p => decide (p.1.cls = .type "tuple") && gvsB K vs p.2.toList
      | none => false) = true at h
    cases e : objAt K w seqOf with
    | none => rw [e] at h; exact no_true h
    | some p =>
      rw [e] at h
      obtain ⟨h1, h2⟩ := and_tt h
      obtain ⟨a, e1, e2, e3⟩ := objAt_eq e
      exact ⟨a, p.2.toList, p.1, e1, e2, ⟨of_decide_eq_true h1, seqOf_eq e3⟩, gvs_of vs _ h2⟩
  | .none => fun zz h => no_true h
  | .bool _ => fun zz h => no_true h
  | .lst _ => fun zz h => no_true h
  | .rng _ => fun zz h => no_true h
  | .ref _ => fun zz h => no_true h
theorem gvs_of {K : Frag} : ∀ (vs : List V) (ws : List Value), gvsB K vs ws = true → GVs K vs ws
  | [] => fun zz h => List.isEmpty_iff.mp h
  | v :: vs => fun ws h => by
    cases ws with
    | nil => exact no_true h
    | cons w ws =>
      obtain ⟨h1, h2⟩ := and_tt (h : (gvB K v w && gvsB K vs ws) = true)
      exact ⟨w, ws, rfl, gv_of v w h1, gvs_of vs _ h2⟩
end
noncomputable def isNone : Value → Bool
  | .none => true
  | _ => false
noncomputable def dfB (K : Frag) (dv : Value) (ds : List V) : Bool := match objAt K dv seqOf with
  | some p => gvsB K ds p.2.toList
  | none => isNone dv && ds.isEmpty
theorem df_of {K : Frag} {dv : Value} {ds : List V} (h : dfB K dv ds = true) : DfOk K dv ds := by
  unfold dfB at h
  cases e : objAt K dv seqOf with
  | none =>
    rw [e] at h
    obtain ⟨h1, h2⟩ := and_tt h
    exact .inl ⟨by cases dv <;> first | rfl | exact no_true h1, List.isEmpty_iff.mp h2⟩
  | some p =>
    rw [e] at h
    obtain ⟨a, e1, e2, e3⟩ := objAt_eq e
    obtain ⟨n, e3⟩ := seqOf_eq e3
    exact .inr ⟨a, p.1, p.2, n, e1, e2, e3, gvs_of ds _ h⟩
noncomputable def stmtsOf : FuncBody → Option (List Stmt)
  | .stmts b => some b
  | _ => none
theorem stmtsOf_eq {d : FuncBody} {b : List Stmt} (h : stmtsOf d = some b) : d = .stmts b := by
  cases d <;> first | exact no_some h | (cases h; rfl)
noncomputable abbrev FnSrc : Type := Arguments × Scope × List Stmt
noncomputable def fdB (K : Frag) (ds : List V) (fd : FuncData) : Bool := fd.closure.isEmpty && (codeIn K fd.code fd.qualname && (decide (fd.globals = mainGlobals) && (decide (fd.builtins = builtinsNs) && dfB K fd.defaults ds)))
noncomputable def srcAtK (K : Frag) (a : Addr) (ds : List V) : Option FnSrc := (objAt K (.ref a) funcOf).bind fun p => if fdB K ds p.2 then (stmtsOf p.2.body).map fun b => (p.2.params, p.2.scope, b) else none
noncomputable def defSrc : Stmt → Option FnSrc
  | .FunctionDef _ a b _ _ _ sc _ _ _ => some (a, sc, b)
  | _ => none
noncomputable def bodyOf : Stmt → List Stmt
  | .ClassDef _ _ _ b _ _ _ _ _ _ _ => b
  | _ => []
noncomputable def srcOf (p : Nat × Nat) : Option FnSrc := (PySem.Challenge.rw_on0198_01.row.toRowW.prog.main.body[p.1]?).bind fun s => match p.2 with
  | 0 => defSrc s
  | j + 1 => ((bodyOf s)[j]?).bind defSrc
noncomputable def trOf (s : FnSrc) (ds : List V) : Option FI := (trF s.1 s.2.1 s.2.2 ds).map (·.1)
noncomputable def fnP : List (Nat × Nat) := [(5, 0), (7, 0), (25, 0), (26, 0), (27, 0), (28, 0), (37, 1), (37, 2), (37, 3), (38, 1), (38, 2), (38, 3), (38, 4), (38, 5), (38, 6), (38, 7), (38, 8), (38, 9), (38, 10), (38, 12), (38, 13), (38, 14), (38, 15), (39, 0), (47, 0), (48, 1), (48, 2), (48, 3), (48, 5), (48, 6), (48, 7), (48, 8), (48, 9), (48, 10), (48, 11), (48, 12), (48, 13), (48, 14), (48, 15), (48, 21), (49, 0), (51, 0), (52, 0), (53, 0), (54, 0), (56, 0), (57, 0), (58, 0), (59, 0), (60, 0), (61, 0), (62, 0), (63, 0), (64, 0), (65, 0), (10, 1), (10, 2), (11, 1), (11, 2), (13, 1), (14, 1)]
noncomputable def fnPL : List ((Nat × FI) × (Nat × Nat)) := ((28, fi_err_init), (1, 1)) :: fnL.zip fnP
noncomputable def FnRow (K : Frag) (a : Addr) (fi : FI) : Prop := ∃ o fd, K.lookup a = some o ∧ o.data = .func fd ∧ fd.closure = [] ∧ codeIn K fd.code fd.qualname = true ∧ FnOk K fd fi
theorem trF_of {a : Arguments} {sc : Scope} {b : List Stmt} {ds : List V} {fi : FI} (h : (trF a sc b ds).map (·.1) = some fi) : TrFn a sc b fi := by
  obtain ⟨q, zz, rfl⟩ := Option.map_eq_some_iff.mp h
  exact q.2
theorem row_fn {K : Frag} {a : Addr} {fi : FI} {q : Nat × Nat} (h1 : srcAtK K a fi.dflts = srcOf q) (h2 : (srcOf q).bind (fun s => trOf s fi.dflts) = some fi) : FnRow K a fi := by
  rw [← h1] at h2
  obtain ⟨s, e, h2⟩ := Option.bind_eq_some_iff.mp h2
  obtain ⟨p, e1, e⟩ := Option.bind_eq_some_iff.mp e
  obtain ⟨c, e⟩ := if_some e
  obtain ⟨b, e2, rfl⟩ := Option.map_eq_some_iff.mp e
  obtain ⟨zz, r, ho, hf⟩ := objAt_eq e1
  cases r
  obtain ⟨c1, c⟩ := and_tt c
  obtain ⟨c2, c⟩ := and_tt c
  obtain ⟨c3, c⟩ := and_tt c
  obtain ⟨c4, c5⟩ := and_tt c
  exact ⟨_, p.2, ho, funcOf_eq hf, List.isEmpty_iff.mp c1, c2, ⟨⟨b, stmtsOf_eq e2, trF_of h2⟩, of_decide_eq_true c3, of_decide_eq_true c4, df_of c5⟩⟩
noncomputable def FldRow (K : Frag) (c f : Nat) : Prop := ∃ x, nm[f]? = some x ∧ plainGet K c x = true ∧ hasDictIn K c = true ∧ (∃ attr, findIn K (.ref c) x = some attr ∧ noGet K attr = true) ∧
    findIn K (.ref c) "__setattr__" = some (some (.builtin "object.__setattr__")) ∧ plainOver K c = true ∧ takerIn K c x = some none
noncomputable def MethRow (K : Frag) (c f a : Nat) : Prop := ∃ x, nm[f]? = some x ∧ plainGet K c x = true ∧ findIn K (.ref c) x = some (some (.ref a)) ∧ isFn K (.ref a) = true
noncomputable def InitRow (K : Frag) (a i : Nat) : Prop := makesIn K a = true ∧ findIn K (.ref a) "__init__" = some (some (.ref i)) ∧ typeIn K (.ref i) = some (.type "function")
noncomputable def GlobRow (K : Frag) (x : Nat) (v : V) : Prop := ∃ s w, nm[x]? = some s ∧ nsIn K mainGlobals s = some (some w) ∧ GV K v w
noncomputable def globB (K : Frag) (s : Str) (v : V) : Bool := ((nsIn K mainGlobals s).bind id).any (gvB K v)
theorem any_some {α : Type} {o : Option α} {p : α → Bool} (h : o.any p = true) : ∃ x, o = some x ∧ p x = true := by
  cases o with
  | none => exact no_true h
  | some x => exact ⟨x, rfl, h⟩
theorem row_glob {K : Frag} {i : Nat} {x : Str} {v : V} (hx : nm[i]? = some x) (h : globB K x v = true) : GlobRow K i v := by
  obtain ⟨w, hw, h⟩ := any_some h
  obtain ⟨o, e, rfl⟩ := Option.bind_eq_some_iff.mp hw
  exact ⟨x, w, hx, e, gv_of _ _ h⟩
theorem lk_mem {α : Type} {x : Nat} {v : α} {l : List (Nat × α)} (h : lk x l = some v) : (x, v) ∈ l := by
  induction l with
  | nil => exact no_some h
  | cons a r ih =>
    by_cases q : Nat.beq x a.1 = true
    · have h : (if Nat.beq x a.1 then some a.2 else lk x r) = some v := h
      rw [if_pos q] at h
      rw [Nat.eq_of_beq_eq_true q, ← Option.some.inj h]
      exact .head _
    · have h : (if Nat.beq x a.1 then some a.2 else lk x r) = some v := h
      rw [if_neg q] at h
      exact .tail _ (ih h)
noncomputable def dictB (K : Frag) (es : List (List Nat × V)) (ds : List DictEntry) : Bool := match es with
  | [] => ds.isEmpty
  | e :: es => match ds with
    | [] => false
    | d :: ds => decide (strOf d.key = some e.1.toArray) && (gvB K e.2 d.val && dictB K es ds)
theorem dict_of {K : Frag} {es : List (List Nat × V)} : ∀ {ds : List DictEntry}, dictB K es ds = true → DRel K es ds := by
  induction es with
  | nil =>
    intro ds h
    cases ds with
    | nil => trivial
    | cons => exact no_true h
  | cons e es ih =>
    intro ds h
    cases ds with
    | nil => exact no_true h
    | cons d ds =>
      obtain ⟨h1, h⟩ := and_tt (h : (decide (strOf d.key = some e.1.toArray) && (gvB K e.2 d.val && dictB K es ds)) = true)
      obtain ⟨h2, h3⟩ := and_tt h
      exact ⟨strOf_eq (of_decide_eq_true h1), gv_of _ _ h2, ih h3⟩

noncomputable def addrsK : List Nat := [3, 27, 28, 30, 31, 55, 56, 64, 65, 73, 79, 80, 98, 99, 105, 106, 108, 109, 126, 127, 133, 134, 136, 137, 182, 183, 192, 193, 210, 211, 220, 221, 367, 368, 374, 375, 381, 382, 388, 389, 390, 391, 392, 393, 394, 395, 408, 409, 415, 416, 422, 423, 432, 433, 450, 451, 452, 458, 459, 465, 466, 472, 473, 479, 480, 486, 487, 493, 494, 500, 501, 507, 508, 514, 515, 528, 529, 535, 536, 542, 543, 549, 550, 552, 553, 563, 564, 566, 567, 587, 588, 601, 602, 608, 609, 615, 616, 629, 630, 636, 637, 643, 644, 650, 651, 657, 658, 664, 665, 671, 672, 678, 679, 685, 686, 692, 693, 699, 700, 741, 742, 744, 745, 755, 756, 762, 763, 769, 770, 776, 777, 783, 784, 790, 791, 797, 798, 804, 805, 811, 812, 818, 819, 825, 826, 832, 833, 839, 840, 844, 845, 849, 850]
noncomputable def KOf (h : Heap) : Frag := addrsK.filterMap fun a => (h.get? a).map fun o => (a, o)
theorem KOf.in_ {h : Heap} : (KOf h).In h := by
  unfold KOf
  generalize addrsK = l
  intro a o e
  induction l with
  | nil => cases e
  | cons b l ih =>
    rw [List.filterMap_cons] at e
    cases hb : h.get? b with
    | none => rw [hb] at e; exact ih e
    | some p =>
      rw [hb] at e
      have e' : (((b, p) :: l.filterMap fun a => (h.get? a).map fun o => (a, o)) : List (Addr × Obj)).lookup a = some o := e
      rw [List.lookup_cons] at e'
      split at e'
      · rename_i q
        cases e'
        rw [eq_of_beq q]
        exact hb
      · exact ih e'
noncomputable def fd28 : FuncData := { name := "__init__", qualname := "MarkupError.__init__", params := { posonlyargs := [], args := [{ arg := "self", annotation := none, pos := { line := 4, col := 17, endLine := 4, endCol := 21 } }, { arg := "message", annotation := none, pos := { line := 4, col := 23, endLine := 4, endCol := 30 } }], vararg := none, kwonlyargs := [], kw_defaults := [], kwarg := none, defaults := [] }, body := .stmts [.Expr (.Call (.Attribute (.Name "Exception" { line := 5, col := 8, endLine := 5, endCol := 17 }) "__init__" { line := 5, col := 8, endLine := 5, endCol := 26 }) [.Name "self" { line := 5, col := 27, endLine := 5, endCol := 31 }, .Name "message" { line := 5, col := 33, endLine := 5, endCol := 40 }] [] { line := 5, col := 8, endLine := 5, endCol := 41 }) { line := 5, col := 8, endLine := 5, endCol := 41 }, .Assign [.Attribute (.Name "self" { line := 6, col := 8, endLine := 6, endCol := 12 }) "message" { line := 6, col := 8, endLine := 6, endCol := 20 }] (.Name "message" { line := 6, col := 23, endLine := 6, endCol := 30 }) { line := 6, col := 8, endLine := 6, endCol := 30 }], scope := { kind := .function, names := [("self", .«local»), ("message", .«local»), ("Exception", .globalImplicit)], isGenerator := false, isCoroutine := false }, globals := 3, closure := [], defaults := .none, kwdefaults := .none, pyModule := .str "markupmill.errors" 187, code := .ref 27 }
noncomputable def lev1 (Q : PySem.Params) (s : Str) (n : Int) (a b : Addr) : DictEntry := ⟨PyData.keyHash Q s, .str s a, .int n b⟩
noncomputable def levL : List (Str × Int × Nat × Nat) := [("or", 1, 983, 984), ("and", 2, 985, 986), ("=", 3, 987, 988), ("!=", 3, 989, 990), ("<", 4, 991, 992), ("<=", 4, 993, 994), (">", 4, 995, 996), (">=", 4, 997, 998), ("+", 5, 999, 1000), ("-", 5, 1001, 1002), ("*", 6, 1003, 1004), ("div", 6, 1005, 1006), ("mod", 6, 1007, 1008)]
noncomputable def levE (Q : PySem.Params) : List DictEntry := levL.map fun p => lev1 Q p.1 p.2.1 p.2.2.1 p.2.2.2
theorem lev_all (Q : PySem.Params) : KeysLit Q (levE Q) := by
  unfold levE
  generalize levL = l
  induction l with
  | nil => trivial
  | cons p r ih => exact ⟨⟨_, _, rfl, rfl⟩, ih⟩
theorem methL_fn : ∀ p ∈ methL, ∀ q ∈ p.2, (PT.fn q.2).isSome = true := by decide +kernel
noncomputable def kOfT (K : Frag) : Nat → FuncData → Prop := fun k fd => ∀ fi, PT.nested k = some fi → FnOk K fd fi
noncomputable def fldB (K : Frag) (c f : Nat) : Bool := nm[f]?.any fun x => plainGet K c x && (hasDictIn K c && ((findIn K (.ref c) x).any (noGet K) && ((findIn K (.ref c) "__setattr__" == some (some (.builtin "object.__setattr__"))) && (plainOver K c && (takerIn K c x == some none)))))
noncomputable def methB (K : Frag) (c f a : Nat) : Bool := nm[f]?.any fun x => plainGet K c x && ((findIn K (.ref c) x == some (some (.ref a))) && isFn K (.ref a))
noncomputable def initB (K : Frag) (a i : Nat) : Bool := makesIn K a && (findIn K (.ref a) "__init__" == some (some (.ref i)) && typeIn K (.ref i) == some (.type "function"))
noncomputable def globRB (K : Frag) (x : Nat) (v : V) : Bool := nm[x]?.any fun s => globB K s v
noncomputable def dictOfD : Data → Option (List DictEntry)
  | .dict ds _ => some ds.toList
  | _ => none
noncomputable def freeB (K : Frag) (s : Str) : Bool := nsIn K mainGlobals s == some none
structure RowT where
  fns : List (Option FnSrc)
  flags : Bool
  k28 : Option Obj
  k56 : Option Obj
  k566 : Option Obj
noncomputable def flagsB (K : Frag) : Bool :=
  (fldL.all fun p => p.2.all fun f => fldB K p.1 f) && ((methL.all fun p => p.2.all fun q => methB K p.1 q.1 q.2) && ((initL.all fun p => initB K p.1 p.2) && ((globL.all fun p => globRB K p.1 p.2) && (([Bi.len, .int, .max, .str, .ord, .abs, .range, .tuple].all fun b => freeB K (biName b)) && ((findIn K (.ref 56) "__init__" == some (some (.ref 28))) && ((findIn K (.ref 56) "__setattr__" == some (some (.builtin "object.__setattr__"))) && ((takerIn K 56 "message" == some none) && (freeB K "Exception" && (freeB K "zip" && ((tabIn K "law" == some (849, 847)) && (noTabs K && ((K.lookup 566).any fun o => (dictOfD o.data).any (dictB K levels)))))))))))))
noncomputable def chkK (K : Frag) : RowT := ⟨fnPL.map fun p => srcAtK K p.1.1 p.1.2.dflts, flagsB K, K.lookup 28, K.lookup 56, K.lookup 566⟩
noncomputable def okK (Q : PySem.Params) : RowT :=
  ⟨fnPL.map fun p => srcOf p.2, true, some ⟨.type "function", none, .func fd28, #[]⟩,
   some (excClassObj "SheetFault" "SheetFault" 56 55 [.ref 31] [.ref 31, .type "Exception", .type "BaseException", .type "object"] true [] [] false none none (some (.ref 47)) none (some (.str "SheetFault" 234)) (some (.str "SheetFault" 242)) (some (.bool true)) "Exception.__new__"),
   some ⟨.type "dict", none, .dict (levE Q).toArray 13, #[]⟩⟩
structure Rows (Q : PySem.Params) (K : Frag) : Prop where
  eq : chkK K = okK Q
theorem texts : (fnPL.map fun p => (srcOf p.2).bind fun s => trOf s p.1.2.dflts) = fnPL.map fun p => some p.1.2 := by kernel_rfl
theorem fnL_sub : (fnPL.map (·.1)).tail = fnL := by rfl
section
variable {Q : PySem.Params} {K : Frag}
theorem all2 {α : Type} {p : α → Bool} {l : List α} (h : l.all p = true) {a : α} (ha : a ∈ l) : p a = true := List.all_eq_true.mp h a ha
theorem map_mem {α β : Type} {f g : α → β} : ∀ {l : List α}, l.map f = l.map g → ∀ a ∈ l, f a = g a
  | b :: l, h, a, ha => by
    rw [List.map_cons, List.map_cons] at h
    cases ha with
    | head => exact (List.cons.inj h).1
    | tail _ ha => exact map_mem (List.cons.inj h).2 a ha
theorem Rows.row (R : Rows Q K) {a : Addr} {fi : FI} (h : (a, fi) ∈ fnPL.map (·.1)) : FnRow K a fi := by
  obtain ⟨p, hp, e⟩ := List.mem_map.mp h
  have h0 : (fnPL.map fun p => srcAtK K p.1.1 p.1.2.dflts) = fnPL.map fun p => srcOf p.2 := congrArg RowT.fns R.eq
  have h1 := map_mem h0 p hp
  have h2 := map_mem texts p hp
  rw [e] at h1 h2
  exact row_fn h1 h2
theorem Rows.fn (R : Rows Q K) : ∀ p ∈ fnL, FnRow K p.1 p.2 := fun p hp => R.row (List.mem_of_mem_tail (fnL_sub ▸ hp))
theorem Rows.flags (R : Rows Q K) : flagsB K = true := congrArg RowT.flags R.eq
theorem Rows.f1 (R : Rows Q K) : (fldL.all fun p => p.2.all fun f => fldB K p.1 f) = true ∧ ((methL.all fun p => p.2.all fun q => methB K p.1 q.1 q.2) && ((initL.all fun p => initB K p.1 p.2) && ((globL.all fun p => globRB K p.1 p.2) && (([Bi.len, .int, .max, .str, .ord, .abs, .range, .tuple].all fun b => freeB K (biName b)) && ((findIn K (.ref 56) "__init__" == some (some (.ref 28))) && ((findIn K (.ref 56) "__setattr__" == some (some (.builtin "object.__setattr__"))) && ((takerIn K 56 "message" == some none) && (freeB K "Exception" && (freeB K "zip" && ((tabIn K "law" == some (849, 847)) && (noTabs K && ((K.lookup 566).any fun o => (dictOfD o.data).any (dictB K levels))))))))))))) = true := and_tt R.flags
theorem Rows.f2 (R : Rows Q K) : (methL.all fun p => p.2.all fun q => methB K p.1 q.1 q.2) = true ∧ ((initL.all fun p => initB K p.1 p.2) && ((globL.all fun p => globRB K p.1 p.2) && (([Bi.len, .int, .max, .str, .ord, .abs, .range, .tuple].all fun b => freeB K (biName b)) && ((findIn K (.ref 56) "__init__" == some (some (.ref 28))) && ((findIn K (.ref 56) "__setattr__" == some (some (.builtin "object.__setattr__"))) && ((takerIn K 56 "message" == some none) && (freeB K "Exception" && (freeB K "zip" && ((tabIn K "law" == some (849, 847)) && (noTabs K && ((K.lookup 566).any fun o => (dictOfD o.data).any (dictB K levels)))))))))))) = true := and_tt R.f1.2
theorem Rows.f3 (R : Rows Q K) : (initL.all fun p => initB K p.1 p.2) = true ∧ ((globL.all fun p => globRB K p.1 p.2) && (([Bi.len, .int, .max, .str, .ord, .abs, .range, .tuple].all fun b => freeB K (biName b)) && ((findIn K (.ref 56) "__init__" == some (some (.ref 28))) && ((findIn K (.ref 56) "__setattr__" == some (some (.builtin "object.__setattr__"))) && ((takerIn K 56 "message" == some none) && (freeB K "Exception" && (freeB K "zip" && ((tabIn K "law" == some (849, 847)) && (noTabs K && ((K.lookup 566).any fun o => (dictOfD o.data).any (dictB K levels))))))))))) = true := and_tt R.f2.2
theorem Rows.f4 (R : Rows Q K) : (globL.all fun p => globRB K p.1 p.2) = true ∧ (([Bi.len, .int, .max, .str, .ord, .abs, .range, .tuple].all fun b => freeB K (biName b)) && ((findIn K (.ref 56) "__init__" == some (some (.ref 28))) && ((findIn K (.ref 56) "__setattr__" == some (some (.builtin "object.__setattr__"))) && ((takerIn K 56 "message" == some none) && (freeB K "Exception" && (freeB K "zip" && ((tabIn K "law" == some (849, 847)) && (noTabs K && ((K.lookup 566).any fun o => (dictOfD o.data).any (dictB K levels)))))))))) = true := and_tt R.f3.2
theorem Rows.f5 (R : Rows Q K) : ([Bi.len, .int, .max, .str, .ord, .abs, .range, .tuple].all fun b => freeB K (biName b)) = true ∧ ((findIn K (.ref 56) "__init__" == some (some (.ref 28))) && ((findIn K (.ref 56) "__setattr__" == some (some (.builtin "object.__setattr__"))) && ((takerIn K 56 "message" == some none) && (freeB K "Exception" && (freeB K "zip" && ((tabIn K "law" == some (849, 847)) && (noTabs K && ((K.lookup 566).any fun o => (dictOfD o.data).any (dictB K levels))))))))) = true := and_tt R.f4.2
theorem Rows.f6 (R : Rows Q K) : (findIn K (.ref 56) "__init__" == some (some (.ref 28))) = true ∧ ((findIn K (.ref 56) "__setattr__" == some (some (.builtin "object.__setattr__"))) && ((takerIn K 56 "message" == some none) && (freeB K "Exception" && (freeB K "zip" && ((tabIn K "law" == some (849, 847)) && (noTabs K && ((K.lookup 566).any fun o => (dictOfD o.data).any (dictB K levels)))))))) = true := and_tt R.f5.2
theorem Rows.f7 (R : Rows Q K) : (findIn K (.ref 56) "__setattr__" == some (some (.builtin "object.__setattr__"))) = true ∧ ((takerIn K 56 "message" == some none) && (freeB K "Exception" && (freeB K "zip" && ((tabIn K "law" == some (849, 847)) && (noTabs K && ((K.lookup 566).any fun o => (dictOfD o.data).any (dictB K levels))))))) = true := and_tt R.f6.2
theorem Rows.f8 (R : Rows Q K) : (takerIn K 56 "message" == some none) = true ∧ (freeB K "Exception" && (freeB K "zip" && ((tabIn K "law" == some (849, 847)) && (noTabs K && ((K.lookup 566).any fun o => (dictOfD o.data).any (dictB K levels)))))) = true := and_tt R.f7.2
theorem Rows.f9 (R : Rows Q K) : (freeB K "Exception") = true ∧ (freeB K "zip" && ((tabIn K "law" == some (849, 847)) && (noTabs K && ((K.lookup 566).any fun o => (dictOfD o.data).any (dictB K levels))))) = true := and_tt R.f8.2
theorem Rows.f10 (R : Rows Q K) : (freeB K "zip") = true ∧ ((tabIn K "law" == some (849, 847)) && (noTabs K && ((K.lookup 566).any fun o => (dictOfD o.data).any (dictB K levels)))) = true := and_tt R.f9.2
theorem Rows.f11 (R : Rows Q K) : (tabIn K "law" == some (849, 847)) = true ∧ (noTabs K && ((K.lookup 566).any fun o => (dictOfD o.data).any (dictB K levels))) = true := and_tt R.f10.2
theorem Rows.f12 (R : Rows Q K) : (noTabs K) = true ∧ ((K.lookup 566).any fun o => (dictOfD o.data).any (dictB K levels)) = true := and_tt R.f11.2
theorem Rows.glob (R : Rows Q K) : ∀ p ∈ globL, GlobRow K p.1 p.2 := fun p hp => by
  obtain ⟨s, hx, h⟩ := any_some (all2 R.f4.1 hp)
  exact row_glob hx h
theorem Rows.init (R : Rows Q K) : ∀ p ∈ initL, InitRow K p.1 p.2 := fun p hp => by
  obtain ⟨h1, h⟩ := and_tt (all2 R.f3.1 hp)
  exact ⟨h1, eq_of_beq (and_tt h).1, eq_of_beq (and_tt h).2⟩
theorem Rows.fld (R : Rows Q K) : ∀ p ∈ fldL, ∀ f ∈ p.2, FldRow K p.1 f := fun p hp f hf => by
  obtain ⟨x, hx, h⟩ := any_some (all2 (all2 R.f1.1 hp) hf)
  obtain ⟨h1, h⟩ := and_tt h
  obtain ⟨h2, h⟩ := and_tt h
  obtain ⟨h3, h⟩ := and_tt h
  obtain ⟨h4, h⟩ := and_tt h
  obtain ⟨h5, h6⟩ := and_tt h
  exact ⟨x, hx, h1, h2, any_some h3, eq_of_beq h4, h5, eq_of_beq h6⟩
theorem Rows.meth (R : Rows Q K) : ∀ p ∈ methL, ∀ q ∈ p.2, MethRow K p.1 q.1 q.2 := fun p hp f hf => by
  obtain ⟨x, hx, h⟩ := any_some (all2 (all2 R.f2.1 hp) hf)
  obtain ⟨h1, h⟩ := and_tt h
  obtain ⟨h2, h3⟩ := and_tt h
  exact ⟨x, hx, h1, eq_of_beq h2, h3⟩
theorem Rows.ex (R : Rows Q K) : findIn K (.ref 56) "__init__" = some (some (.ref 28)) ∧ findIn K (.ref 56) "__setattr__" = some (some (.builtin "object.__setattr__")) ∧ takerIn K 56 "message" = some none ∧ nsIn K mainGlobals "Exception" = some none ∧ nsIn K mainGlobals "zip" = some none ∧ tabIn K "law" = some (849, 847) ∧ noTabs K = true :=
  ⟨eq_of_beq R.f6.1, eq_of_beq R.f7.1, eq_of_beq R.f8.1, eq_of_beq R.f9.1, eq_of_beq R.f10.1, eq_of_beq R.f11.1, R.f12.1⟩
theorem Rows.k28 (R : Rows Q K) : K.lookup 28 = some ⟨.type "function", none, .func fd28, #[]⟩ := congrArg RowT.k28 R.eq
theorem Rows.k56 (R : Rows Q K) : K.lookup 56 = some (excClassObj "SheetFault" "SheetFault" 56 55 [.ref 31] [.ref 31, .type "Exception", .type "BaseException", .type "object"] true [] [] false none none (some (.ref 47)) none (some (.str "SheetFault" 234)) (some (.str "SheetFault" 242)) (some (.bool true)) "Exception.__new__") := congrArg RowT.k56 R.eq
theorem Rows.k566 (R : Rows Q K) : K.lookup 566 = some ⟨.type "dict", none, .dict (levE Q).toArray 13, #[]⟩ := congrArg RowT.k566 R.eq
theorem Rows.init28 (R : Rows Q K) : InitOK K fd28 := by
  obtain ⟨o, fd, h1, h2, h3, h4, h5⟩ := R.row (a := 28) (fi := fi_err_init) (.head _)
  rw [R.k28] at h1
  cases h1
  cases h2
  exact ⟨⟨fi_err_init, 4, 5, h5, h4, rfl, rfl, rfl, rfl, rfl, rfl⟩, rfl, rfl, rfl, rfl, ⟨_, _, _, _, _, _, _, _, _, _, rfl, rfl⟩⟩
theorem Rows.tabX (R : Rows Q K) : TabX PT K := by
  refine ⟨fun c h => ?_⟩
  have h : Nat.beq c 56 = true := h
  rw [Nat.eq_of_beq_eq_true h]
  exact ⟨⟨_, _, _, _, _, _, _, _, _, _, _, _, _, _, _, R.k56⟩, ⟨28, _, fd28, R.ex.1, R.k28, rfl, rfl, R.init28⟩, R.ex.2.1, R.ex.2.2.1, R.ex.2.2.2.1⟩
theorem Rows.tabC (R : Rows Q K) : TabC PT K := by
  refine ⟨fun c f h => ?_, fun c f a h => ?_⟩
  · have h : (match lk c fldL with | some l => l.any (Nat.beq f) | none => false) = true := h
    cases e : lk c fldL with
    | none => rw [e] at h; cases h
    | some l =>
      rw [e] at h
      obtain ⟨y, hy, hb⟩ := List.any_eq_true.mp h
      rw [Nat.eq_of_beq_eq_true hb]
      exact R.fld _ (lk_mem e) y hy
  · obtain ⟨l, e, h⟩ := Option.bind_eq_some_iff.mp (show (lk c methL).bind (fun l => lk f l) = some a from h)
    exact R.meth _ (lk_mem e) _ (lk_mem h)
theorem Rows.tabF (R : Rows Q K) : TabF PT K (kOfT K) :=
  ⟨fun a fi h => R.fn _ (lk_mem h), fun k fi fd h hk => hk fi h, fun a i h => R.init _ (lk_mem h)⟩
end
theorem Rows.tabE {g : Pg} {Q : PySem.Params} (R : Rows Q g.K) : TabE g PT g.K := by
  refine ⟨fun x v h => R.glob _ (lk_mem h), fun b => ?_, R.ex.2.2.2.2.1⟩
  have h := all2 R.f5.1 (a := b) (by cases b <;> repeat (first | exact .head _ | refine .tail _ ?_))
  exact eq_of_beq h
theorem Rows.tabD {g : Pg} {K : Frag} (R : Rows g.w.params K) : TabD g PT K := by
  refine ⟨fun a es h => ?_, fun c f a h => ?_⟩
  · have h : (if Nat.beq a 566 then some levels else none) = some es := h
    cases e : Nat.beq a 566 with
    | false => rw [e] at h; cases h
    | true =>
      rw [e] at h
      cases h
      rw [Nat.eq_of_beq_eq_true e]
      exact ⟨_, _, R.k566, by rw [List.toList_toArray]; exact lev_all _, by decide, by
        obtain ⟨o, e, h⟩ := any_some R.f12.2
        rw [R.k566] at e
        cases e
        exact dict_of h⟩
  · obtain ⟨l, e, h⟩ := Option.bind_eq_some_iff.mp (show (lk c methL).bind (fun l => lk f l) = some a from h)
    exact methL_fn _ (lk_mem e) _ (lk_mem h)
theorem Rows.tabs {g : Pg} (R : Rows g.w.params g.K) (hk : g.kOf = kOfT g.K) : Tabs g PT g.K g.kOf := by
  have e := R.tabE
  rw [hk]
  exact ⟨e, R.tabC, R.tabF, R.tabD⟩
end Mine.Internal
end

section
open PySem PySem.W PyProof.Rows PySem.Calls
set_option autoImplicit false
set_option maxRecDepth 100000
namespace Mine.Internal
theorem abs_at {t : BT} {n : Nat} {life : Life} {a : Nat} : (absHeap t n life).get? a = if a < n then alive ((t.get a).getD default) else none := by
  unfold Heap.get?
  rw [absHeap_at]
  by_cases h : a < n
  · rw [if_pos h, if_pos h]
    generalize (t.get a).getD default = o
    obtain ⟨c, d, dt, sl⟩ := o
    cases dt <;> rfl
  · rw [if_neg h, if_neg h]
noncomputable def KT (S : SharedT) : Frag := addrsK.filterMap fun a => (match Nat.blt a S.n with | true => alive ((S.tree.get a).getD default) | false => none).map fun o => (a, o)
theorem KT_eq (S : SharedT) : KOf S.abs.heap = KT S := by
  unfold KOf KT
  congr 1
  funext a
  congr 1
  show (absHeap S.tree S.n S.life).get? a = _
  rw [abs_at]
  by_cases h : a < S.n
  · rw [if_pos h, show Nat.blt a S.n = true from Nat.ble_eq_true_of_le h]
  · rw [if_neg h]
    cases q : Nat.blt a S.n with
    | false => rfl
    | true => exact absurd (Nat.le_of_ble_eq_true q) h
theorem top_fin {p : Program} {w : World} {m₀ : Nat} {ann : Option Value} {s : Shared} {b : List Stmt} {env : Env} {pos qp : Pos} : topRun treeTable p w m₀ ann 2 s ⟨doneF .next, .body b env, pos, [topFrame qp]⟩ = some s := rfl
theorem left_run {p q : Program} {loose : List Str} {Xt : Shared → Bool} {α : Type} {Yf : Shared → α} {Ya : World → α} {Yt : SharedT → α} (hYt : ∀ S : SharedT, Yf S.abs = Yt S) {N : Nat} {H₀ : Params → Heap} {d₀ : Drawn} {k₀ m₀ n1 n2 n3 : Nat} {ann : Option Value} {S1 : World → OsState → Shared} {ST : World → OsState → SharedT}
    {b : List Stmt} {env : Env} {pos pos' : Pos} {qp : Pos} {mods : List Str} (hm : importedModules p.main.body = mods)
    (open_ : ∀ w : World, (fencedOpening treeTable p w N).map (fun s => (s.heap, s.gens, s.drawn, s.toks)) = some (H₀ w.params, Array.mk [], d₀, k₀))
    (size : ∀ w : World, ((H₀ w.params).isNs mainGlobals && (Array.mk [] : Array GenState).size == 0, (H₀ w.params).objs.size, (H₀ w.params).nsMap mainGlobals "__annotations__") = (true, m₀, ann))
    (pre : ∀ w os, topGo treeTable p w m₀ ann n1 ⟨H₀ w.params, Array.mk [], d₀, k₀, os⟩ (topStub p) = some (S1 w os, ⟨denote treeTable (.body b env), .body b env, pos, [topFrame qp]⟩))
    (block : ∀ w os, segRun treeTable p w m₀ ann 1 n2 (S1 w os) (blockOf b env (.body b env) pos [topFrame qp]) = some (.next, (ST w os).abs, .body b env, pos'))
    (main : ∀ w os, (segRunT treeTable p w m₀ ann 1 n3 (ST w os) (piecesOf b env (.body b env) pos' [topFrame qp])).map (fun r => (r.1, r.2.2.1, staticsOk mods (H₀ w.params) r.2.1.abs.heap && namesBound p r.2.1.abs.heap && gensDone r.2.1.abs && laidKept (H₀ w.params) r.2.1.abs.heap, openSeen q loose mods Xt true r.2.1.abs, Yt r.2.1)) = some (.next, .body b env, true, openGood q loose, Ya w))
    (le : Nat.ble (n1 + (n2 + (n3 + 2))) N = true) : LeftO p q loose Xt Yf Ya N := fun w => by
  obtain ⟨⟨h, gs, d, k, os⟩, e, e'⟩ := Option.map_eq_some_iff.mp (open_ w)
  obtain ⟨rfl, rfl, rfl, rfl⟩ : h = H₀ w.params ∧ gs = Array.mk [] ∧ d = d₀ ∧ k = k₀ := by simpa using e'
  obtain ⟨z1, z2, z3⟩ : _ ∧ _ ∧ _ := by simpa only [Prod.mk.injEq] using size w
  obtain ⟨⟨fl, sT, c', p'⟩, r1, r2⟩ := Option.map_eq_some_iff.mp (main w os)
  obtain ⟨rfl, r2⟩ := Prod.mk.inj r2
  obtain ⟨rfl, r2⟩ := Prod.mk.inj r2
  obtain ⟨l1, f2⟩ := Prod.mk.inj r2
  obtain ⟨l2, l3⟩ := Prod.mk.inj f2
  rw [← hYt] at l3
  have f1 : topRun treeTable p w m₀ ann 2 sT.abs ⟨doneF .next, .body b env, p', [topFrame qp]⟩ = some sT.abs := top_fin
  have g0 := segRun_of r1
  generalize sT.abs = s1 at g0 l1 l2 l3 f1 ⊢
  have g := piece_app (l := b) (rest := []) g0 (piece_nil (env := env) f1)
  rw [List.append_nil] at g
  have r := go_top (pre w os) (piece_block (block w os) g)
  replace r := topRun_mono (N - (n1 + (n2 + (n3 + 2)))) _ _ _ _ r
  rw [show n1 + (n2 + (n3 + 2)) + (N - (n1 + (n2 + (n3 + 2)))) = N by have := Nat.le_of_ble_eq_true le; omega] at r
  have t : topFrom treeTable p w N ⟨H₀ w.params, Array.mk [], d, k, os⟩ = some s1 := by
    unfold topFrom
    dsimp only
    rw [z1, z2, z3, r, hm]
    show (match staticsOk mods (H₀ w.params) s1.heap && namesBound p s1.heap && gensDone s1 && laidKept (H₀ w.params) s1.heap with | true => _ | false => _) = _
    rw [l1]
  unfold openEnds
  rw [e]
  show (topFrom treeTable p w N _).map _ = _
  rw [t, hm]
  exact congrArg some (Prod.ext l2 l3)
end Mine.Internal
end

section
open PySem PySem.W PyProof.Rows PySem.Calls
set_option autoImplicit false
set_option maxRecDepth 100000
namespace Mine.Internal
noncomputable abbrev pw : Program := PySem.Challenge.rw_on0198_01.row.toRowW.prog
noncomputable def p0 : Pos := { line := 0, col := 0, endLine := 0, endCol := 0 }
noncomputable def env0 : Env := { scope := pw.main.scope, locals := PySem.mainNs, globals := PySem.mainNs, cells := [], code := PySem.Value.ref 13, frame := some 14 }
noncomputable def n1 : Obj := ⟨PySem.Value.type "tuple", none, PySem.Data.seq #[] 0, #[]⟩
noncomputable def n2 : Obj := ⟨PySem.Value.none, none, PySem.Data.fields #[], #[]⟩
noncomputable def n3 : Obj := ⟨PySem.Value.type "code", none, PySem.Data.fields
        #[PySem.Value.str (PySem.Str.ofString "<module>") 182, PySem.Value.str (PySem.Str.ofString "<module>") 183,
          PySem.Value.str (PySem.Str.ofString "/claim/cut.py") 184, PySem.Value.int 1 0, PySem.Value.int 0 0,
          PySem.Value.int 0 0, PySem.Value.int 0 0, PySem.Value.int 0 0, PySem.Value.ref 11, PySem.Value.bool false,
          PySem.Value.int 181 0, PySem.Value.ref 12, PySem.Value.none, PySem.Value.none, PySem.Value.none,
          PySem.Value.none, PySem.Value.int 185 0, PySem.Value.int 1 0,
          PySem.Value.str (PySem.Str.ofString "/claim/cut.py") 186], #[]⟩
noncomputable def n4 : Obj := ⟨PySem.Value.type "frame", none, .plain, #[some (PySem.Value.ref 13), some (PySem.Value.ref 3), some (PySem.Value.ref 3), none,
        some (PySem.Value.str (PySem.Str.ofString "__main__") 164), none, some (PySem.Value.ref 0)]⟩
noncomputable def t0 (P : Params) : BT :=
  .node (boot_o_0 P)
    (.node (boot_o_1 P) (.node (boot_o_3 P) (.node (boot_o_7 P) .nil .nil) (.node n1 .nil .nil)) (.node (boot_o_5 P) (.node (boot_o_9 P) .nil .nil) (.node n3 .nil .nil)))
    (.node (boot_o_2 P) (.node (boot_o_4 P) (.node (boot_o_8 P) .nil .nil) (.node n2 .nil .nil)) (.node (boot_o_6 P) (.node (boot_o_10 P) .nil .nil) (.node n4 .nil .nil)))
noncomputable abbrev ST0 (w : World) (os : OsState) : SharedT := ⟨t0 w.params, 15, {}, Array.mk [], {}, 187, os⟩
noncomputable abbrev bd : List Stmt := behindTheImports pw
noncomputable def qv : Program := { pw with main := { pw.main with body := pw.main.body.drop 65 } }
noncomputable def looseQ : List Str := (["MarkupError", "PathFault", "SheetFault", "common_divisor", "sign_of", "number_of", "rows_of", "Literal", "NumberNode", "VariableNode", "Call", "Binary", "Negated", "Filter", "Path", "Step", "SPACES", "START_RANGES", "MORE_RANGES", "FIRST_BEYOND", "is_in_ranges", "is_space", "is_small_letter", "is_name_start", "is_name_char", "FIGURES", "PAIRS", "OPERATORS", "SIGNS", "WORD_OPERATORS", "KINDS_OF_NODES", "BEHIND_NO_OPERAND", "Word", "PathScanner", "path_words", "MOST_DEPTH", "AXES", "LEVELS", "PRIMARY_KINDS", "any_step", "name_test", "number_value", "PathReader", "parse_path", "expression_end", "split_avt", "filled", "read_avt", "_law_pool", "_law_take", "_law_one", "_law_literal", "_law_expression", "_law_parts", "_law_due", "_law_refused", "_law_wrong_right"] : List String).map Str.ofString
noncomputable def hookR : Hook where
  α := RowT
  obs s := chkK (KOf s.heap)
  val w := okK w.params
  says w h := ∃ K : Frag, K.In h ∧ Rows w.params K
  of w s e := ⟨_, KOf.in_, ⟨e⟩⟩
  keeps w h h' x k := by
    obtain ⟨K, a, b⟩ := x
    exact ⟨K, a.keeps k, b⟩
end Mine.Internal
end

section
open PySem PySem.W PyProof.Rows PySem.Calls
set_option autoImplicit false
set_option maxRecDepth 100000
namespace Mine.Internal
noncomputable abbrev mods : List Str := []
noncomputable abbrev rW : RowW := PySem.Challenge.rw_on0198_01.row.toRowW
theorem hmods : importedModules pw.main.body = mods := by kernel_rfl
noncomputable abbrev Xq : Shared → Bool := fun s => xlAt qv [] s && recOk (RowW.records rW) s
noncomputable abbrev cq : Code := .body bd env0
noncomputable abbrev lookQ (w : World) (S : SharedT) := (staticsOk mods (boot_heap w.params) S.abs.heap && namesBound pw S.abs.heap && gensDone S.abs && laidKept (boot_heap w.params) S.abs.heap, openSeen qv looseQ mods Xq true S.abs, chkK (KT S))
noncomputable abbrev MainQ (w : World) : Prop := ∀ os : OsState, (segRunT treeTable pw w 11 (some (.ref 6)) 1 7000 (ST0 w os) (piecesOf bd env0 cq p0 [topFrame p0])).map (fun r => (r.1, r.2.2.1, lookQ w r.2.1)) = some (.next, cq, true, openGood qv looseQ, hookR.val w)
theorem mainF (w : World) : MainQ (w.withFollow "special-get-raises" false) := by
  intro os
  unfold lookQ
  rewrite [PySem.W.Fast.te10110043849684766642, PySem.W.Fast.te14364793385576792824, PySem.W.Fast.te4187177175401517315]
  kernel_rfl
theorem mainT (w : World) : MainQ (w.withFollow "special-get-raises" true) := by
  intro os
  unfold lookQ
  rewrite [PySem.W.Fast.te10110043849684766642, PySem.W.Fast.te14364793385576792824, PySem.W.Fast.te4187177175401517315]
  kernel_rfl
theorem mainQ (w : World) : MainQ w := byRow2 "special-get-raises" (P := MainQ) mainF mainT w
theorem preQ (w : World) (os : OsState) : topGo treeTable pw w 11 (some (.ref 6)) 12 ⟨boot_heap w.params, Array.mk [], boot_drawn, boot_toks, os⟩ (topStub pw) = some ((ST0 w os).abs, ⟨denote treeTable cq, cq, p0, [topFrame p0]⟩) := by kernel_rfl
theorem blockQ (w : World) (os : OsState) : segRun treeTable pw w 11 (some (.ref 6)) 1 1 (ST0 w os).abs (blockOf bd env0 cq p0 [topFrame p0]) = some (.next, (ST0 w os).abs, cq, p0) := by kernel_rfl
theorem sizeQ (w : World) : ((boot_heap w.params).isNs mainGlobals && (Array.mk [] : Array GenState).size == 0, (boot_heap w.params).objs.size, (boot_heap w.params).nsMap mainGlobals "__annotations__") = (true, 11, some (.ref 6)) := by kernel_rfl
theorem openQ (w : World) : (fencedOpening treeTable pw w 8000).map (fun s => (s.heap, s.gens, s.drawn, s.toks)) = some (boot_heap w.params, Array.mk [], boot_drawn, boot_toks) :=
  boot_open (p := pw) (N := 8000) (by kernel_rfl) (by kernel_rfl) (fun s => by kernel_rfl) w
theorem leftQ : LeftO pw qv looseQ Xq hookR.obs hookR.val 8000 :=
  left_run (Yt := fun S => chkK (KT S)) (fun S => congrArg chkK (KT_eq S)) hmods openQ sizeQ preQ blockQ mainQ (by kernel_rfl)
end Mine.Internal
end

section
open PySem
set_option autoImplicit false
namespace Mine.Internal

noncomputable def Sat {α : Type} (r : R α) (Q : α → Hp → Prop) (E : Nat → V → Hp → Prop) : Prop := match r with
  | .ok a h => Q a h
  | .ex c m h => E c m h
  | .no => False
theorem Sat.mono {α : Type} {r : R α} {Q Q' : α → Hp → Prop} {E E' : Nat → V → Hp → Prop} (hs : Sat r Q E) (q : ∀ a h, Q a h → Q' a h) (e : ∀ c m h, E c m h → E' c m h) : Sat r Q' E' := by
  cases r with
  | ok a h => exact q _ _ hs
  | ex c m h => exact e _ _ _ hs
  | no => exact hs
structure W {α : Type} (x : Nat → R α) (Q : α → Hp → Prop) (E : Nat → V → Hp → Prop) : Prop where
  p : ∃ r N, (∀ n, N ≤ n → x n = r) ∧ Sat r Q E
section
variable {α β : Type} {Q Q' : α → Hp → Prop} {E E' : Nat → V → Hp → Prop}
theorem W.mono {x : Nat → R α} (w : W x Q E) (q : ∀ a h, Q a h → Q' a h) (e : ∀ c m h, E c m h → E' c m h) : W x Q' E' := by
  obtain ⟨r, N, hn, hs⟩ := w.p
  exact ⟨r, N, hn, hs.mono q e⟩
theorem W.pure {a : α} {h : Hp} (q : Q a h) : W (fun zz => .ok a h) Q E := ⟨.ok a h, 0, fun zz zz => rfl, q⟩
theorem W.exn {c : Nat} {m : V} {h : Hp} (q : E c m h) : W (fun zz => (.ex c m h : R α)) Q E := ⟨.ex c m h, 0, fun zz zz => rfl, q⟩
theorem W.bind {x : Nat → R β} {k : Nat → β → Hp → R α} (w : W x (fun b h => W (fun n => k n b h) Q E) E) : W (fun n => (x n).bind (k n)) Q E := by
  obtain ⟨r, N, hn, hs⟩ := w.p
  cases r with
  | ok b h =>
    obtain ⟨r', N', hn', hs'⟩ := W.p hs
    refine ⟨r', max N N', fun n h1 => ?_, hs'⟩
    rw [hn n (by omega)]
    exact hn' n (by omega)
  | ex c m h => exact ⟨.ex c m h, N, fun n h1 => by rw [hn n h1], hs⟩
  | no => exact hs.elim
theorem W.succ {x y : Nat → R α} (hx : ∀ n, x (n + 1) = y n) (w : W y Q E) : W x Q E := by
  obtain ⟨r, N, hn, hs⟩ := w.p
  refine ⟨r, N + 1, fun n h1 => ?_, hs⟩
  obtain ⟨m, rfl⟩ : ∃ m, n = m + 1 := ⟨n - 1, by omega⟩
  rw [hx]
  exact hn m (by omega)
theorem W.congr {x y : Nat → R α} (hx : ∀ n, x n = y n) (w : W y Q E) : W x Q E := by
  rw [show x = y from funext hx]; exact w
theorem W.noEx {x : Nat → R α} (w : W x Q (fun zz zz zz => False)) : W (fun n => (x n).noEx) Q E := by
  obtain ⟨r, N, hn, hs⟩ := w.p
  cases r with
  | ok b h => exact ⟨.ok b h, N, fun n h1 => by rw [hn n h1], hs⟩
  | ex c m h => exact hs.elim
  | no => exact hs.elim
end

noncomputable abbrev QV := V → Hp → Prop
noncomputable abbrev QE := Nat → V → Hp → Prop
noncomputable abbrev Lc := List (Nat × V)
noncomputable abbrev Cl := List (Nat × Nat)
noncomputable abbrev QL := List (Nat × V) → Hp → Prop
inductive Br (t : Bool) (A B : Prop) : Prop
  | t (e : t = true) (p : A)
  | f (e : t = false) (p : B)
theorem Br.by {t : Bool} {A B : Prop} (a : t = true → A) (b : t = false → B) : Br t A B := by
  cases t
  · exact .f rfl (b rfl)
  · exact .t rfl (a rfl)
theorem OkO.is {α : Type} {o : Option α} {k : α → Prop} (v : α) (e : o = some v) (q : k v) : @Option.rec α (fun zz => Prop) False k o := by subst e; exact q
theorem OkO.p {α : Type} {o : Option α} {k : α → Prop} (w : @Option.rec α (fun zz => Prop) False k o) : ∃ v, o = some v ∧ k v := by
  cases o with
  | none => exact w.elim
  | some v => exact ⟨v, rfl, w⟩
theorem OkB.mk {b : Bool} {k : Prop} (e : b = true) (p : k) : @Bool.rec (fun zz => Prop) False k b := by subst e; exact p
theorem OkB.p {b : Bool} {k : Prop} (w : @Bool.rec (fun zz => Prop) False k b) : b = true ∧ k := by
  cases b with
  | false => exact w.elim
  | true => exact ⟨rfl, w⟩
structure SetA (h : Hp) (o : V) (n : Nat) (v : V) (q : Hp → Prop) : Prop where
  p : ∃ k c fs, o = .ref k ∧ h[k]? = some (.inst c fs) ∧ (PT.fld c n && decide (fs.length < 100)) = true ∧ q (h.set k (.inst c (put n v fs)))
structure SetI (h : Hp) (o i v : V) (q : Hp → Prop) : Prop where
  p : ∃ k i' vs j, o = .ref k ∧ i = .int i' ∧ h[k]? = some (.list vs) ∧ seqPos vs.length i' = some j ∧ i'.natAbs ≤ LIM ∧ q (h.set k (.list (vs.set j v)))
structure AppO (h : Hp) (n : Nat) (as : List V) (q : Hp → Prop) : Prop where
  p : ∃ v vs, as = [v] ∧ h[n]? = some (.list vs) ∧ vs.length ≤ LIM ∧ q (h.set n (.list (vs ++ [v])))
structure New (h : Hp) (o : O) (q : Nat → Hp → Prop) : Prop where
  p : q h.length (h ++ [o])
structure Wc (d : Nat) (g : V) (as : List V) (h : Hp) (Q : QV) (E : QE) : Prop where
  p : W (fun n => (run PT n).call d g as h) Q E
structure Wl (s : S) (l : Lc) (z : Cl) (d : Nat) (h : Hp) (N : QL) (B C : QL) (Rt : QV) (E : QE) : Prop where
  p : W (fun n => (run PT n).ex s ⟨l, z, d⟩ h) (fun p h => match p.1 with | .next => N p.2 h | .brk => B p.2 h | .cont => C p.2 h | .ret v => Rt v h) E
structure Wfor (t : Tg) (v : V) (i : Nat) (b : List S) (l : Lc) (z : Cl) (d : Nat) (h : Hp) (N : QL) (B C : QL) (Rt : QV) (E : QE) : Prop where
  p : W (fun n => (run PT n).forL t v i b ⟨l, z, d⟩ h) (fun p h => match p.1 with | .next => N p.2 h | .brk => B p.2 h | .cont => C p.2 h | .ret v => Rt v h) E
structure Wzip (t : Tg) (v w : V) (i : Nat) (b : List S) (l : Lc) (z : Cl) (d : Nat) (h : Hp) (N : QL) (B C : QL) (Rt : QV) (E : QE) : Prop where
  p : W (fun n => (run PT n).forZ t v w i b ⟨l, z, d⟩ h) (fun p h => match p.1 with | .next => N p.2 h | .brk => B p.2 h | .cont => C p.2 h | .ret v => Rt v h) E
structure Wcm (e : T) (t : Tg) (src : V) (cs : List T) (i : Nat) (acc : List V) (l : Lc) (z : Cl) (d : Nat) (h : Hp) (Q : List V → Hp → Prop) : Prop where
  p : W (fun n => (run PT n).compL e t src cs i acc ⟨l, z, d⟩ h) Q (fun zz zz zz => False)
noncomputable def wpM (d : Nat) (o : V) (m : Mth) (as : List V) (h : Hp) (Q : QV) (E : QE) : Prop := match m with
  | .str f => match o with
    | .str l => @Option.rec V (fun zz => Prop) False (fun v => Q v h) (strMeth h l f as)
    | _ => False
  | .dget a => match as with
    | [k, d] => match k with
      | .str k => @Option.rec (List (List Nat × V)) (fun zz => Prop) False (fun es => Q ((es.lookup k).getD d) h) (PT.dict a)
      | _ => False
    | _ => False
  | .app n => AppO h n as (fun h => Q .none h)
  | .fn g => Wc d (.top g) (o :: as) h Q E
mutual
noncomputable def wpe : T → Lc → Cl → Nat → Hp → QV → QE → Prop
  | .none, _, _, _, h, Q, _ => Q .none h
  | .bool b, _, _, _, h, Q, _ => Q (.bool b) h
  | .int i, _, _, _, h, Q, _ => Q (.int i) h
  | .str x, _, _, _, h, Q, _ => Q (.str x) h
  | .var x, l, _, _, h, Q, _ => @Option.rec V (fun zz => Prop) False (fun v => Q v h) (lk x l)
  | .cell x, _, z, _, h, Q, _ => @Option.rec Nat (fun zz => Prop) False (fun n => ∃ v, h[n]? = some (.cell (some v)) ∧ Q v h) (lk x z)
  | .glob x, _, _, _, h, Q, _ => @Option.rec V (fun zz => Prop) False (fun v => Q v h) (PT.glob x)
  | .bin o a b, l, z, d, h, Q, E => wpe a l z d h (fun a h => wpe b l z d h (fun b h => @Option.rec V (fun zz => Prop) False (fun v => Q v h) (binV o a b)) E) E
  | .neg a, l, z, d, h, Q, E => wpe a l z d h (fun a h => match a with | .int i => Q (.int (-i)) h | _ => False) E
  | .not a, l, z, d, h, Q, E => wpe a l z d h (fun a h => @Option.rec Bool (fun zz => Prop) False (fun b => Q (.bool (!b)) h) (truthy a)) E
  | .and as, l, z, d, h, Q, E => wands as l z d h Q E
  | .or as, l, z, d, h, Q, E => wors as l z d h Q E
  | .ite c a b, l, z, d, h, Q, E => wpe c l z d h (fun t h => @Option.rec Bool (fun zz => Prop) False (fun t => Br t (wpe a l z d h Q E) (wpe b l z d h Q E)) (truthy t)) E
  | .cmp o a b, l, z, d, h, Q, E => wpe a l z d h (fun a h => wpe b l z d h (fun b h => @Option.rec Bool (fun zz => Prop) False (fun v => Q (.bool v) h) (cmpV h o a b)) E) E
  | .cmp2 o₁ o₂ a b c, l, z, d, h, Q, E => wpe a l z d h (fun a h => wpe b l z d h (fun b h => @Option.rec Bool (fun zz => Prop) False (fun t => Br t (wpe c l z d h (fun c h => @Option.rec Bool (fun zz => Prop) False (fun v => Q (.bool v) h) (cmpV h o₂ b c)) E) (Q (.bool false) h)) (cmpV h o₁ a b)) E) E
  | .tup as, l, z, d, h, Q, E => wpes as l z d h (fun vs h => Q (.tup vs) h) E
  | .lst as, l, z, d, h, Q, E => wpes as l z d h (fun vs h => New h (.list vs) fun n h => Q (.ref n) h) E
  | .idx a i, l, z, d, h, Q, E => wpe a l z d h (fun a h => wpe i l z d h (fun i h => @Option.rec V (fun zz => Prop) False (fun v => Q v h) (idxV h a i)) E) E
  | .slice a lo hi, l, z, d, h, Q, E => wpe a l z d h (fun a h => wpo lo l z d h (fun lo h => wpo hi l z d h (fun hi h => @Option.rec V (fun zz => Prop) False (fun v => Q v h) (cutV a lo hi)) E) E) E
  | .attr a n, l, z, d, h, Q, E => wpe a l z d h (fun a h => @Option.rec V (fun zz => Prop) False (fun v => Q v h) (attrV PT h a n)) E
  | .call g as, l, z, d, h, Q, E => wpe g l z d h (fun g h => wpes as l z d h (fun as h => @Bool.rec (fun zz => Prop) False (Wc d g as h Q E) (canCall PT h g)) E) E
  | .bi b as, l, z, d, h, Q, E => wpes as l z d h (fun as h => @Option.rec V (fun zz => Prop) False (fun v => Q v h) (biV h b as)) E
  | .meth o n as, l, z, d, h, Q, E => wpe o l z d h (fun o h => @Option.rec Mth (fun zz => Prop) False (fun m => wpes as l z d h (fun as h => wpM d o m as h Q E) E) (findM PT o n h)) E
  | .repl o c b, l, z, d, h, Q, E => wpe o l z d h (fun o h => match o with
    | .str x => (x.length ≤ 4096 ∧ b.length ≤ 16 ∧ [c] ≠ b) ∧ Q (.str (repl1 c b x)) h
    | _ => False) E
  | .comp e t src cs fv, l, z, d, h, Q, E => @Bool.rec (fun zz => Prop) False (wpe src l z d h (fun s h => @Bool.rec (fun zz => Prop) False (Wcm e t s cs 0 [] [] (z.filter fun p => fv.contains p.1) d h (fun vs h => New h (.list vs) fun n h => Q (.ref n) h)) (isSrc h s)) E) (fv.all (fun x => (lk x z).isSome))
noncomputable def wpes : List T → Lc → Cl → Nat → Hp → (List V → Hp → Prop) → QE → Prop
  | [], _, _, _, h, Q, _ => Q [] h
  | t :: ts, l, z, d, h, Q, E => wpe t l z d h (fun v h => wpes ts l z d h (fun vs h => Q (v :: vs) h) E) E
noncomputable def wands : List T → Lc → Cl → Nat → Hp → QV → QE → Prop
  | [], _, _, _, _, _, _ => False
  | t :: ts, l, z, d, h, Q, E => wpe t l z d h (fun v h => match ts with
    | [] => Q v h
    | _ :: _ => @Option.rec Bool (fun zz => Prop) False (fun b => Br b (wands ts l z d h Q E) (Q (.bool false) h)) (truthy v)) E
noncomputable def wors : List T → Lc → Cl → Nat → Hp → QV → QE → Prop
  | [], _, _, _, _, _, _ => False
  | t :: ts, l, z, d, h, Q, E => wpe t l z d h (fun v h => match ts with
    | [] => Q v h
    | _ :: _ => @Option.rec Bool (fun zz => Prop) False (fun b => Br b (Q (.bool true) h) (wors ts l z d h Q E)) (truthy v)) E
noncomputable def wpo : Option T → Lc → Cl → Nat → Hp → (Option V → Hp → Prop) → QE → Prop
  | none, _, _, _, h, Q, _ => Q none h
  | some t, l, z, d, h, Q, E => wpe t l z d h (fun v h => Q (some v) h) E
end
noncomputable def wtsts : List T → Lc → Cl → Nat → Hp → (Bool → Hp → Prop) → QE → Prop
  | [], _, _, _, h, Q, _ => Q true h
  | t :: ts, l, z, d, h, Q, E => wpe t l z d h (fun v h => @Option.rec Bool (fun zz => Prop) False (fun b => Br b (wtsts ts l z d h Q E) (Q false h)) (truthy v)) E
noncomputable def wpR (e : T) (l : Lc) (z : Cl) (d : Nat) (h : Hp) (E : QE) : Prop := match e with
  | .call g [a] => wpe g l z d h (fun g h => wpe a l z d h (fun m h => match g, m with
    | .top c, .str x => (PT.exc c = true ∧ d < 50) ∧ E c (.str x) h
    | _, _ => False) E) E
  | _ => False
mutual
noncomputable def wpx : S → Lc → Cl → Nat → Hp → QL → QL → QL → QV → QE → Prop
  | .expr e, l, z, d, h, N, _, _, _, E => wpe e l z d h (fun zz h => N l h) E
  | .asg t e, l, z, d, h, N, _, _, _, E => wpe e l z d h (fun v h => @Option.rec (Lc × Hp) (fun zz => Prop) False (fun p => N p.1 p.2) (asgT ⟨l, z, d⟩ h t v)) E
  | .setAttr o n e, l, z, d, h, N, _, _, _, E => wpe e l z d h (fun v h => wpe o l z d h (fun o h => SetA h o n v (fun h => N l h)) E) E
  | .setIdx o i e, l, z, d, h, N, _, _, _, E => wpe e l z d h (fun v h => wpe o l z d h (fun o h => wpe i l z d h (fun i h => SetI h o i v (fun h => N l h)) E) E) E
  | .aug x o e, l, z, d, h, N, _, _, _, E => @Option.rec V (fun zz => Prop) False (fun a => match a with | .int a => wpe e l z d h (fun b h => match b, o with | .int b, .add => N (put x (.int (a + b)) l) h | _, _ => False) E | _ => False) (lk x l)
  | .asg2 x y a b, l, z, d, h, N, _, _, _, E => wpe a l z d h (fun a h => wpe b l z d h (fun b h => N (put x a (put y b l)) h) E) E
  | .junk, _, _, _, _, _, _, _, _, _ => False
  | .ret none, _, _, _, h, _, _, _, Rt, _ => Rt .none h
  | .ret (some e), l, z, d, h, _, _, _, Rt, E => wpe e l z d h Rt E
  | .ife c a b, l, z, d, h, N, B, C, Rt, E => wpe c l z d h (fun t h => @Option.rec Bool (fun zz => Prop) False (fun t => Br t (wpxs a l z d h N B C Rt E) (wpxs b l z d h N B C Rt E)) (truthy t)) E
  | .while c b, l, z, d, h, N, B, C, Rt, E => Wl (.while c b) l z d h N B C Rt E
  | .for t src b, l, z, d, h, N, B, C, Rt, E => wpe src l z d h (fun v h => @Bool.rec (fun zz => Prop) False (Wfor t v 0 b l z d h N B C Rt E) (isSrc h v)) E
  | .forZip t a c b, l, z, d, h, N, B, C, Rt, E => wpe a l z d h (fun a h => wpe c l z d h (fun c h => @Bool.rec (fun zz => Prop) False (Wzip t a c 0 b l z d h N B C Rt E) (isLst h a && isLst h c)) E) E
  | .raise e, l, z, d, h, _, _, _, _, E => wpR e l z d h E
  | .try e c b, l, z, d, h, N, _, _, Rt, _ => wpe e l z d h (fun zz h => N l h) (fun k zz h => (PT.glob c = some (.top k) ∧ PT.exc k = true) ∧ Rt (.bool b) h)
  | .defn x k, l, z, _, h, N, _, _, _, _ => N (put x (.ref h.length) l) (h ++ [.clos k z])
noncomputable def wpxs : List S → Lc → Cl → Nat → Hp → QL → QL → QL → QV → QE → Prop
  | [], l, _, _, h, N, _, _, _, _ => N l h
  | s :: ss, l, z, d, h, N, B, C, Rt, E => wpx s l z d h (fun l h => wpxs ss l z d h N B C Rt E) B C Rt E
end
end Mine.Internal
end

section
open PySem
set_option autoImplicit false
namespace Mine.Internal
noncomputable abbrev We (t : T) (l : Lc) (z : Cl) (d : Nat) (h : Hp) (Q : QV) (E : QE) : Prop := W (fun n => (run PT n).ev t ⟨l, z, d⟩ h) Q E
noncomputable abbrev FQ (N B C : QL) (Rt : QV) : Fl × List (Nat × V) → Hp → Prop := fun p h => match p.1 with | .next => N p.2 h | .brk => B p.2 h | .cont => C p.2 h | .ret v => Rt v h
noncomputable abbrev Wx (s : S) (l : Lc) (z : Cl) (d : Nat) (h : Hp) (N B C : QL) (Rt : QV) (E : QE) : Prop := W (fun n => (run PT n).ex s ⟨l, z, d⟩ h) (FQ N B C Rt) E
theorem W.lift {o : Nat → Option V} {v : V} {h : Hp} {Q : QV} {E : QE} (e : ∀ n, o n = some v) (q : Q v h) : W (fun n => lift (o n) h) Q E := by
  refine W.congr (y := fun zz => .ok v h) (fun n => ?_) (W.pure q)
  rw [e]; rfl
theorem W.liftO {o : Option V} {h : Hp} {Q : QV} {E : QE} (q : @Option.rec V (fun zz => Prop) False (fun v => Q v h) (o)) : W (fun zz => Mine.Internal.lift o h) Q E := by
  obtain ⟨v, e, q⟩ := OkO.p q
  subst e
  exact W.pure q
theorem W.liftB {o : Option Bool} {h : Hp} {Q : QV} {E : QE} (q : @Option.rec Bool (fun zz => Prop) False (fun v => Q (.bool v) h) (o)) : W (fun zz => Mine.Internal.lift (o.map .bool) h) Q E := by
  obtain ⟨v, e, q⟩ := OkO.p q
  subst e
  exact W.pure q
theorem W.ite {α : Type} {b : Bool} {x y : Nat → R α} {Q : α → Hp → Prop} {E : QE} (q : Br b (W x Q E) (W y Q E)) : W (fun n => if b then x n else y n) Q E := by
  cases q with
  | t e p => subst e; exact p
  | f e p => subst e; exact p
theorem W.tst {t : T} {l : Lc} {z : Cl} {d : Nat} {h : Hp} {Q : Bool → Hp → Prop} {E : QE} (w : We t l z d h (fun v h => @Option.rec Bool (fun zz => Prop) False (fun b => Q b h) (truthy v)) E) : W (fun n => tst (run PT n) t ⟨l, z, d⟩ h) Q E := by
  refine W.bind (w.mono (fun v h q => ?_) fun zz zz zz e => e)
  obtain ⟨b, e, q⟩ := OkO.p q
  exact W.congr (fun n => by rw [e]) (W.pure q)
theorem truthy_inv {v : V} {b : Bool} (e : truthy v = some b) : v = .bool b := by
  cases v with
  | bool c => cases e; rfl
  | _ => exact nomatch (show (none : Option Bool) = some b from e)
theorem Br.map {t : Bool} {A B A' B' : Prop} (w : Br t A B) (a : A → A') (b : B → B') : Br t A' B' := by
  cases w with
  | t e p => exact .t e (a p)
  | f e p => exact .f e (b p)
theorem wpM_ok {d : Nat} {o : V} {m : Mth} {as : List V} {h : Hp} {Q : QV} {E : QE} (w : wpM d o m as h Q E) : W (fun n => runM PT (run PT n) d o m as h) Q E := by
  cases m with
  | str f => cases o <;> first | exact False.elim w | exact W.liftO w
  | dget a =>
    match as, w with
    | [k, d], w =>
      cases k with
      | str k =>
        obtain ⟨es, e, q⟩ := OkO.p w
        refine W.congr (fun n => ?_) (W.pure q)
        unfold runM
        dsimp only
        rw [e]
      | _ => exact False.elim w
    | [], w => exact False.elim w
    | [_], w => exact False.elim w
    | _ :: _ :: _ :: _, w => exact False.elim w
  | app n =>
    obtain ⟨v, vs, rfl, e, l, q⟩ := AppO.p w
    refine W.congr (fun m => ?_) (W.pure q)
    unfold runM
    dsimp only
    rw [e]
    exact if_pos l
  | fn g => exact Wc.p w
mutual
theorem wpe_ok : ∀ (t : T) (l : Lc) (z : Cl) (d : Nat) (h : Hp) (Q : QV) (E : QE), wpe t l z d h Q E → We t l z d h Q E
  | .none, l, z, d, h, Q, E, w => W.succ (fun zz => rfl) (W.pure w)
  | .bool b, l, z, d, h, Q, E, w => W.succ (fun zz => rfl) (W.pure w)
  | .int i, l, z, d, h, Q, E, w => W.succ (fun zz => rfl) (W.pure w)
  | .str x, l, z, d, h, Q, E, w => W.succ (fun zz => rfl) (W.pure w)
  | .var x, l, z, d, h, Q, E, w => W.succ (y := fun zz => lift (lk x l) h) (fun zz => rfl) (W.liftO w)
  | .cell x, l, z, d, h, Q, E, w => by
    obtain ⟨n, e, v, hv, q⟩ := OkO.p w
    refine W.succ (y := fun zz => .ok v h) (fun m => ?_) (W.pure q)
    show (match lk x z with
      | some n => match h[n]? with | some (.cell (some v)) => R.ok v h | _ => .no
      | none => .no) = _
    rw [e]; dsimp only; rw [hv]
  | .glob x, l, z, d, h, Q, E, w => W.succ (y := fun zz => lift (PT.glob x) h) (fun zz => rfl) (W.liftO w)
  | .bin o a b, l, z, d, h, Q, E, w => W.succ (fun zz => rfl) (W.bind ((wpe_ok a l z d _ _ _ w).mono (fun a h w => W.bind ((wpe_ok b l z d _ _ _ w).mono (fun b h w => W.liftO w) fun zz zz zz e => e)) fun zz zz zz e => e))
  | .neg a, l, z, d, h, Q, E, w => W.succ (fun zz => rfl) (W.bind ((wpe_ok a l z d _ _ _ w).mono (fun a h w => by
    cases a <;> first | exact w.elim | exact W.pure w) fun zz zz zz e => e))
  | .not a, l, z, d, h, Q, E, w => W.succ (fun zz => rfl) (W.bind (W.tst ((wpe_ok a l z d _ _ _ w).mono (fun a h w => by
    obtain ⟨b, e, q⟩ := OkO.p w
    rw [e]; exact W.pure q) fun zz zz zz e => e)))
  | .and as, l, z, d, h, Q, E, w => W.succ (fun zz => rfl) (wands_ok as l z d _ _ _ w)
  | .or as, l, z, d, h, Q, E, w => W.succ (fun zz => rfl) (wors_ok as l z d _ _ _ w)
  | .ite c a b, l, z, d, h, Q, E, w => W.succ (fun zz => rfl) (W.bind (W.tst ((wpe_ok c l z d _ _ _ w).mono (fun v h w => by
    obtain ⟨t, e, w⟩ := OkO.p w
    rw [e]
    exact W.ite (w.map (wpe_ok a l z d _ _ _) (wpe_ok b l z d _ _ _))) fun zz zz zz e => e)))
  | .cmp o a b, l, z, d, h, Q, E, w => W.succ (fun zz => rfl) (W.bind ((wpe_ok a l z d _ _ _ w).mono (fun a h w => W.bind ((wpe_ok b l z d _ _ _ w).mono (fun b h w => W.liftB w) fun zz zz zz e => e)) fun zz zz zz e => e))
  | .cmp2 o₁ o₂ a b c, l, z, d, h, Q, E, w => W.succ (fun zz => rfl) (W.bind ((wpe_ok a l z d _ _ _ w).mono (fun a h w => W.bind ((wpe_ok b l z d _ _ _ w).mono (fun b h w => by
    obtain ⟨v, e, q⟩ := OkO.p w
    rw [e]
    cases q with
    | t et q =>
      subst et
      exact W.bind ((wpe_ok c l z d _ _ _ q).mono (fun c h w => W.liftB w) fun zz zz zz e => e)
    | f et q => subst et; exact W.pure q) fun zz zz zz e => e)) fun zz zz zz e => e))
  | .tup as, l, z, d, h, Q, E, w => W.succ (fun zz => rfl) (W.bind ((wpes_ok as l z d _ _ _ w).mono (fun a h w => W.pure w) fun zz zz zz e => e))
  | .lst as, l, z, d, h, Q, E, w => W.succ (fun zz => rfl) (W.bind ((wpes_ok as l z d _ _ _ w).mono (fun a h w => W.pure (New.p w)) fun zz zz zz e => e))
  | .idx a i, l, z, d, h, Q, E, w => W.succ (fun zz => rfl) (W.bind ((wpe_ok a l z d _ _ _ w).mono (fun a h w => W.bind ((wpe_ok i l z d _ _ _ w).mono (fun b h w => W.liftO w) fun zz zz zz e => e)) fun zz zz zz e => e))
  | .slice a lo hi, l, z, d, h, Q, E, w => W.succ (fun zz => rfl) (W.bind ((wpe_ok a l z d _ _ _ w).mono (fun a h w => W.bind ((wpo_ok lo l z d _ _ _ w).mono (fun lo h w => W.bind ((wpo_ok hi l z d _ _ _ w).mono (fun b h w => W.liftO w) fun zz zz zz e => e)) fun zz zz zz e => e)) fun zz zz zz e => e))
  | .attr a n, l, z, d, h, Q, E, w => W.succ (fun zz => rfl) (W.bind ((wpe_ok a l z d _ _ _ w).mono (fun a h w => W.liftO w) fun zz zz zz e => e))
  | .call g as, l, z, d, h, Q, E, w => W.succ (fun zz => rfl) (W.bind ((wpe_ok g l z d _ _ _ w).mono (fun g h w => W.bind ((wpes_ok as l z d _ _ _ w).mono (fun as h w => by
    obtain ⟨e, w⟩ := OkB.p w
    exact W.ite (.t e w.p)) fun zz zz zz e => e)) fun zz zz zz e => e))
  | .bi b as, l, z, d, h, Q, E, w => W.succ (fun zz => rfl) (W.bind ((wpes_ok as l z d _ _ _ w).mono (fun a h w => W.liftO w) fun zz zz zz e => e))
  | .meth o n as, l, z, d, h, Q, E, w => W.succ (fun zz => rfl) (W.bind ((wpe_ok o l z d _ _ _ w).mono (fun o h w => by
    obtain ⟨m, e, w⟩ := OkO.p w
    rw [e]
    exact W.bind ((wpes_ok as l z d _ _ _ w).mono (fun as h w => wpM_ok w) fun zz zz zz e => e)) fun zz zz zz e => e))
  | .repl o c b, l, z, d, h, Q, E, w => W.succ (fun zz => rfl) (W.bind ((wpe_ok o l z d _ _ _ w).mono (fun o h w => by
    cases o <;> first | exact w.elim | skip
    exact W.congr (fun n => if_pos w.1) (W.pure w.2)) fun zz zz zz e => e))
  | .comp e t src cs fv, l, z, d, h, Q, E, w => by
    obtain ⟨hb, w⟩ := OkB.p w
    refine W.succ (fun zz => rfl) (W.congr (fun n => if_pos hb) (W.bind ((wpe_ok src l z d _ _ _ w).mono (fun s h w => ?_) fun zz zz zz e => e)))
    obtain ⟨hs, w⟩ := OkB.p w
    refine W.congr (fun n => if_pos hs) (W.bind ?_)
    refine (W.noEx (w.p.mono (Q' := fun vs h => W (fun zz => R.ok (V.ref (List.length h)) (h ++ [O.list vs])) Q E) (fun vs h q => W.pure (New.p q)) fun zz zz zz e => e)).mono (fun zz zz q => q) fun zz zz zz e => False.elim e
theorem wpes_ok : ∀ (ts : List T) (l : Lc) (z : Cl) (d : Nat) (h : Hp) (Q : List V → Hp → Prop) (E : QE), wpes ts l z d h Q E → W (fun n => evs (run PT n) ⟨l, z, d⟩ ts h) Q E
  | [], l, z, d, h, Q, E, w => W.pure w
  | t :: ts, l, z, d, h, Q, E, w => W.bind ((wpe_ok t l z d _ _ _ w).mono (fun a h w => W.bind ((wpes_ok ts l z d _ _ _ w).mono (fun b h w => W.pure w) fun zz zz zz e => e)) fun zz zz zz e => e)
theorem wands_ok : ∀ (ts : List T) (l : Lc) (z : Cl) (d : Nat) (h : Hp) (Q : QV) (E : QE), wands ts l z d h Q E → W (fun n => ands (run PT n) ⟨l, z, d⟩ ts h) Q E
  | [], l, z, d, h, Q, E, w => False.elim w
  | [t], l, z, d, h, Q, E, w => wpe_ok t l z d _ _ _ w
  | t :: t' :: ts, l, z, d, h, Q, E, w => by
    refine W.bind ((wpe_ok t l z d _ _ _ w).mono (fun a h w => ?_) fun zz zz zz e => e)
    obtain ⟨b, e, w⟩ := OkO.p w
    obtain rfl := truthy_inv e
    cases w with
    | t e p => subst e; exact wands_ok (t' :: ts) l z d _ _ _ p
    | f e p => subst e; exact W.pure p
theorem wors_ok : ∀ (ts : List T) (l : Lc) (z : Cl) (d : Nat) (h : Hp) (Q : QV) (E : QE), wors ts l z d h Q E → W (fun n => ors (run PT n) ⟨l, z, d⟩ ts h) Q E
  | [], l, z, d, h, Q, E, w => False.elim w
  | [t], l, z, d, h, Q, E, w => wpe_ok t l z d _ _ _ w
  | t :: t' :: ts, l, z, d, h, Q, E, w => by
    refine W.bind ((wpe_ok t l z d _ _ _ w).mono (fun a h w => ?_) fun zz zz zz e => e)
    obtain ⟨b, e, w⟩ := OkO.p w
    obtain rfl := truthy_inv e
    cases w with
    | t e p => subst e; exact W.pure p
    | f e p => subst e; exact wors_ok (t' :: ts) l z d _ _ _ p
theorem wpo_ok : ∀ (t : Option T) (l : Lc) (z : Cl) (d : Nat) (h : Hp) (Q : Option V → Hp → Prop) (E : QE), wpo t l z d h Q E → W (fun n => evOpt (run PT n) ⟨l, z, d⟩ t h) Q E
  | none, l, z, d, h, Q, E, w => W.pure w
  | some t, l, z, d, h, Q, E, w => W.bind ((wpe_ok t l z d _ _ _ w).mono (fun b h w => W.pure w) fun zz zz zz e => e)
end
theorem wtsts_ok : ∀ (ts : List T) (l : Lc) (z : Cl) (d : Nat) (h : Hp) (Q : Bool → Hp → Prop) (E : QE), wtsts ts l z d h Q E → W (fun n => tsts (run PT n) ⟨l, z, d⟩ ts h) Q E
  | [], l, z, d, h, Q, E, w => W.pure w
  | t :: ts, l, z, d, h, Q, E, w => by
    refine W.bind (W.tst ((wpe_ok t l z d _ _ _ w).mono (fun v h w => ?_) fun zz zz zz e => e))
    obtain ⟨b, e, w⟩ := OkO.p w
    rw [e]
    refine W.ite ?_
    cases w with
    | t e p => exact .t e (wtsts_ok ts l z d _ _ _ p)
    | f e p => exact .f e (W.pure p)
end Mine.Internal
end

section
open PySem
set_option autoImplicit false
namespace Mine.Internal
noncomputable abbrev Wxs (ss : List S) (l : Lc) (z : Cl) (d : Nat) (h : Hp) (N B C : QL) (Rt : QV) (E : QE) : Prop := W (fun n => exs (run PT n) ss ⟨l, z, d⟩ h) (FQ N B C Rt) E
theorem FQ.mono {N N' B B' C C' : QL} {Rt Rt' : QV} {p : Fl × List (Nat × V)} {h : Hp} (w : FQ N B C Rt p h) (n : ∀ l h, N l h → N' l h) (b : ∀ l h, B l h → B' l h) (c : ∀ l h, C l h → C' l h) (r : ∀ v h, Rt v h → Rt' v h) : FQ N' B' C' Rt' p h := by
  obtain ⟨fl, l⟩ := p
  cases fl
  · exact n _ _ w
  · exact b _ _ w
  · exact c _ _ w
  · exact r _ _ w
noncomputable def augK (x : Nat) (i : Int) (o : Bop) (f : Fr') (b : V) (h : Hp) : R (Fl × List (Nat × V)) := match o, b with
      | .add, .int b => R.ok (Fl.next, put x (.int (i + b)) f.loc) h
      | _, _ => .no
theorem exF_aug {r : Rec} {x : Nat} {o : Bop} {e : T} {f : Fr'} {h : Hp} {i : Int} (ea : lk x f.loc = some (.int i)) : exF PT r (.aug x o e) f h = (r.ev e f h).bind (augK x i o f) := by
  show (match lk x f.loc with
    | some (.int a) => (r.ev e f h).bind fun (b : V) (h : Hp) => (match o, b with
      | .add, .int b => R.ok (Fl.next, put x (.int (a + b)) f.loc) h
      | _, _ => .no : R (Fl × List (Nat × V)))
    | _ => .no) = _
  rw [ea]; rfl
theorem exF_try {r : Rec} {e : T} {c : Nat} {b : Bool} {f : Fr'} {h : Hp} : exF PT r (.try e c b) f h = match r.ev e f h with
    | .ok _ h => .ok (.next, f.loc) h
    | .ex k _ h => match PT.glob c with
      | some (.top c) => if k = c ∧ PT.exc c = true then .ok (.ret (.bool b), f.loc) h else .no
      | _ => .no
    | .no => .no := rfl
theorem wpR_ok {e : T} {l : Lc} {z : Cl} {d : Nat} {h : Hp} {E : QE} {Q : Fl × List (Nat × V) → Hp → Prop} (w : wpR e l z d h E) : W (fun n => (run PT n).ex (.raise e) ⟨l, z, d⟩ h) Q E := by
  cases e with
  | call g as =>
    match as, w with
    | [a], w =>
      refine W.succ (fun zz => rfl) (W.bind ((wpe_ok g l z d _ _ _ w).mono (fun g h w => W.bind ((wpe_ok a l z d _ _ _ w).mono (fun m h w => ?_) fun zz zz zz e => e)) fun zz zz zz e => e))
      cases g with
      | top c => cases m with
        | str x => exact W.congr (fun n => if_pos w.1) (W.exn w.2)
        | _ => exact False.elim w
      | _ => exact False.elim w
    | [], w => exact False.elim w
    | _ :: _ :: _, w => exact False.elim w
  | _ => exact False.elim w
mutual
theorem wpx_ok : ∀ (s : S) (l : Lc) (z : Cl) (d : Nat) (h : Hp) (N B C : QL) (Rt : QV) (E : QE), wpx s l z d h N B C Rt E → Wx s l z d h N B C Rt E
  | .expr e, l, z, d, h, N, B, C, Rt, E, w => W.succ (fun zz => rfl) (W.bind ((wpe_ok e l z d _ _ _ w).mono (fun a h w => W.pure w) fun zz zz zz e => e))
  | .asg t e, l, z, d, h, N, B, C, Rt, E, w => W.succ (fun zz => rfl) (W.bind ((wpe_ok e l z d _ _ _ w).mono (fun a h w => by
    obtain ⟨p, e, q⟩ := OkO.p w
    obtain ⟨l', h'⟩ := p
    rw [e]
    exact W.pure q) fun zz zz zz e => e))
  | .setAttr o n e, l, z, d, h, N, B, C, Rt, E, w => W.succ (fun zz => rfl) (W.bind ((wpe_ok e l z d _ _ _ w).mono (fun a h w => W.bind ((wpe_ok o l z d _ _ _ w).mono (fun o h w => by
    obtain ⟨k, c, fs, rfl, e, b, q⟩ := SetA.p w
    dsimp only
    rw [e]
    exact W.congr (fun n => if_pos b) (W.pure q)) fun zz zz zz e => e)) fun zz zz zz e => e))
  | .setIdx o i e, l, z, d, h, N, B, C, Rt, E, w => W.succ (fun zz => rfl) (W.bind ((wpe_ok e l z d _ _ _ w).mono (fun a h w => W.bind ((wpe_ok o l z d _ _ _ w).mono (fun o h w => W.bind ((wpe_ok i l z d _ _ _ w).mono (fun i h w => by
    obtain ⟨k, i, vs, j, rfl, rfl, e, ej, b, q⟩ := SetI.p w
    dsimp only
    rw [e]
    dsimp only
    rw [ej]
    exact W.congr (fun n => if_pos b) (W.pure q)) fun zz zz zz e => e)) fun zz zz zz e => e)) fun zz zz zz e => e))
  | .aug x o e, l, z, d, h, N, B, C, Rt, E, w => by
    obtain ⟨a, ea, w⟩ := OkO.p w
    refine W.succ (y := fun n => exF PT (run PT n) (.aug x o e) ⟨l, z, d⟩ h) (fun zz => rfl) ?_
    cases a <;> first | exact False.elim w | skip
    rename_i i
    refine W.congr (y := fun n => ((run PT n).ev e ⟨l, z, d⟩ h).bind (augK x i o ⟨l, z, d⟩)) (fun n => exF_aug ea) ?_
    refine W.bind ((wpe_ok e l z d _ _ _ w).mono (fun b h w => ?_) fun zz zz zz e => e)
    cases b <;> first | exact False.elim w | skip
    cases o <;> first | exact False.elim w | skip
    exact W.pure w
  | .asg2 x y a b, l, z, d, h, N, B, C, Rt, E, w => W.succ (fun zz => rfl) (W.bind ((wpe_ok a l z d _ _ _ w).mono (fun a h w => W.bind ((wpe_ok b l z d _ _ _ w).mono (fun b h w => W.pure w) fun zz zz zz e => e)) fun zz zz zz e => e))
  | .junk, l, z, d, h, N, B, C, Rt, E, w => False.elim w
  | .ret none, l, z, d, h, N, B, C, Rt, E, w => W.succ (fun zz => rfl) (W.pure w)
  | .ret (some e), l, z, d, h, N, B, C, Rt, E, w => W.succ (fun zz => rfl) (W.bind ((wpe_ok e l z d _ _ _ w).mono (fun a h w => W.pure w) fun zz zz zz e => e))
  | .ife c a b, l, z, d, h, N, B, C, Rt, E, w => W.succ (fun zz => rfl) (W.bind (W.tst ((wpe_ok c l z d _ _ _ w).mono (fun v h w => by
    obtain ⟨t, e, w⟩ := OkO.p w
    rw [e]
    exact W.ite (w.map (wpxs_ok a l z d _ _ _ _ _ _) (wpxs_ok b l z d _ _ _ _ _ _))) fun zz zz zz e => e)))
  | .while c b, l, z, d, h, N, B, C, Rt, E, w => w.p
  | .for t src b, l, z, d, h, N, B, C, Rt, E, w => W.succ (fun zz => rfl) (W.bind ((wpe_ok src l z d _ _ _ w).mono (fun v h w => by
    obtain ⟨e, w⟩ := OkB.p w
    exact W.congr (fun n => if_pos e) w.p) fun zz zz zz e => e))
  | .forZip t a c b, l, z, d, h, N, B, C, Rt, E, w => W.succ (fun zz => rfl) (W.bind ((wpe_ok a l z d _ _ _ w).mono (fun a h w => W.bind ((wpe_ok c l z d _ _ _ w).mono (fun v h w => by
    obtain ⟨e, w⟩ := OkB.p w
    exact W.congr (fun n => if_pos e) w.p) fun zz zz zz e => e)) fun zz zz zz e => e))
  | .raise e, l, z, d, h, N, B, C, Rt, E, w => wpR_ok w
  | .try e c b, l, z, d, h, N, B, C, Rt, E, w => by
    obtain ⟨r, M, hn, hs⟩ := (wpe_ok e l z d _ _ _ w).p
    refine W.succ (y := fun n => exF PT (run PT n) (.try e c b) ⟨l, z, d⟩ h) (fun zz => rfl) ?_
    cases r with
    | ok v h' =>
      refine ⟨.ok (.next, l) h', M, fun n hl => ?_, hs⟩
      rw [exF_try, hn n hl]
    | ex k m h' =>
      refine ⟨.ok (.ret (.bool b), l) h', M, fun n hl => ?_, hs.2⟩
      rw [exF_try, hn n hl]
      dsimp only
      rw [hs.1.1]
      exact if_pos ⟨rfl, hs.1.2⟩
    | no => exact hs.elim
  | .defn x k, l, z, d, h, N, B, C, Rt, E, w => W.succ (fun zz => rfl) (W.pure w)
theorem wpxs_ok : ∀ (ss : List S) (l : Lc) (z : Cl) (d : Nat) (h : Hp) (N B C : QL) (Rt : QV) (E : QE), wpxs ss l z d h N B C Rt E → Wxs ss l z d h N B C Rt E
  | [], l, z, d, h, N, B, C, Rt, E, w => W.pure w
  | s :: ss, l, z, d, h, N, B, C, Rt, E, w => W.bind ((wpx_ok s l z d _ _ _ _ _ _ w).mono (fun p h w => by
    obtain ⟨fl, l⟩ := p
    cases fl
    · exact wpxs_ok ss l z d _ _ _ _ _ _ w
    · exact W.pure w
    · exact W.pure w
    · exact W.pure w) fun zz zz zz e => e)
end
end Mine.Internal
end

section
open PySem
set_option autoImplicit false
namespace Mine.Internal
noncomputable abbrev noL : QL := fun zz zz => False
theorem runFn_ok {d : Nat} {fi : FI} {cel : List (Nat × Nat)} {as vs : List V} {l : List (Nat × V)} {h h' : Hp} {Q : QV} {E : QE} (hd : d < 60) (hb : bindP fi as = some vs)
    (ha : asgTs ⟨[], (mkCells fi.cells cel h).1, d + 1⟩ (mkCells fi.cells cel h).2 fi.params vs = some (l, h'))
    (w : wpxs fi.body l (mkCells fi.cells cel h).1 (d + 1) h' (fun zz h => Q .none h) noL noL Q E) : W (fun n => runFn (run PT n) d fi cel as h) Q E := by
  refine W.congr (y := fun n => (exs (run PT n) fi.body ⟨l, (mkCells fi.cells cel h).1, d + 1⟩ h').bind fun (fl, _) h => match fl with
      | .ret v => R.ok v h
      | .next => .ok .none h
      | _ => .no) (fun n => ?_) (W.bind ((wpxs_ok _ _ _ _ _ _ _ _ _ _ w).mono (fun p h w => ?_) fun zz zz zz e => e))
  · unfold runFn
    rw [if_pos hd, hb]
    dsimp only
    rw [ha] <;> rfl
  · obtain ⟨fl, l⟩ := p
    cases fl
    · exact W.pure w
    · exact False.elim w
    · exact False.elim w
    · exact W.pure w
theorem Wc.fn {d a : Nat} {fi : FI} {as vs : List V} {l : List (Nat × V)} {h h' : Hp} {Q : QV} {E : QE} (hf : PT.fn a = some fi) (hd : d < 60) (hb : bindP fi as = some vs)
    (ha : asgTs ⟨[], (mkCells fi.cells [] h).1, d + 1⟩ (mkCells fi.cells [] h).2 fi.params vs = some (l, h'))
    (w : wpxs fi.body l (mkCells fi.cells [] h).1 (d + 1) h' (fun zz h => Q .none h) noL noL Q E) : Wc d (.top a) as h Q E := by
  refine ⟨W.succ (y := fun n => runFn (run PT n) d fi [] as h) (fun n => ?_) (runFn_ok hd hb ha w)⟩
  show callF PT (run PT n) d (.top a) as h = _
  unfold callF
  dsimp only
  rw [hf]
theorem Wc.clos {d m k : Nat} {cs : List (Nat × Nat)} {fi : FI} {as vs : List V} {l : List (Nat × V)} {h h' : Hp} {Q : QV} {E : QE} (hm : h[m]? = some (.clos k cs)) (hf : PT.nested k = some fi) (hd : d < 60) (hb : bindP fi as = some vs)
    (ha : asgTs ⟨[], (mkCells fi.cells cs h).1, d + 1⟩ (mkCells fi.cells cs h).2 fi.params vs = some (l, h'))
    (w : wpxs fi.body l (mkCells fi.cells cs h).1 (d + 1) h' (fun zz h => Q .none h) noL noL Q E) : Wc d (.ref m) as h Q E := by
  refine ⟨W.succ (y := fun n => runFn (run PT n) d fi cs as h) (fun n => ?_) (runFn_ok hd hb ha w)⟩
  show callF PT (run PT n) d (.ref m) as h = _
  unfold callF
  dsimp only
  rw [hm]
  dsimp only
  rw [hf]
theorem Wc.cls {d a i : Nat} {as : List V} {h : Hp} {Q : QV} {E : QE} (hf : PT.fn a = none) (hi : PT.init a = some i) (hd : d < 60)
    (w : Wc (d + 1) (.top i) (.ref h.length :: as) (h ++ [.inst a []]) (fun v h' => match v with | .none => Q (.ref h.length) h' | _ => False) E) : Wc d (.top a) as h Q E := by
  refine ⟨W.succ (y := fun n => ((run PT n).call (d + 1) (.top i) (.ref h.length :: as) (h ++ [.inst a []])).bind fun v h' => (match v with | .none => R.ok (.ref h.length) h' | _ => .no)) (fun n => ?_) (W.bind (w.p.mono (fun v h w => ?_) fun zz zz zz e => e))⟩
  · show callF PT (run PT n) d (.top a) as h = _
    unfold callF
    dsimp only
    rw [hf]
    rw [hi]
    exact if_pos hd
  · cases v <;> first | exact False.elim w | exact W.pure w
theorem Wl.step {c : T} {b : List S} {l : Lc} {z : Cl} {d : Nat} {h : Hp} {N B C : QL} {Rt : QV} {E : QE}
    (w : wpe c l z d h (fun t h => @Option.rec Bool (fun zz => Prop) False (fun t => Br t (wpxs b l z d h (fun l h => Wl (.while c b) l z d h N B C Rt E) (fun l h => N l h) (fun l h => Wl (.while c b) l z d h N B C Rt E) Rt E) (N l h)) (truthy t)) E) : Wl (.while c b) l z d h N B C Rt E := by
  refine ⟨W.succ (fun zz => rfl) (W.bind (W.tst ((wpe_ok c l z d _ _ _ w).mono (fun v h w => ?_) fun zz zz zz e => e)))⟩
  obtain ⟨t, e, w⟩ := OkO.p w
  rw [e]
  refine W.ite (w.map (fun p => W.bind ((wpxs_ok b l z d _ _ _ _ _ _ p).mono (fun p h w => ?_) fun zz zz zz e => e)) fun p => W.pure p)
  obtain ⟨fl, l⟩ := p
  cases fl
  · exact w.p
  · exact W.pure w
  · exact w.p
  · exact W.pure w
theorem Wfor.step {t : Tg} {v v' : V} {i : Nat} {b : List S} {l₀ l : Lc} {z : Cl} {d : Nat} {h h' : Hp} {N B C : QL} {Rt : QV} {E : QE} (hs : srcAt h i v = some (some v')) (ha : asgT ⟨l₀, z, d⟩ h t v' = some (l, h'))
    (w : wpxs b l z d h' (fun l h => Wfor t v (i + 1) b l z d h N B C Rt E) (fun l h => N l h) (fun l h => Wfor t v (i + 1) b l z d h N B C Rt E) Rt E) : Wfor t v i b l₀ z d h N B C Rt E := by
  refine ⟨W.succ (y := fun n => (exs (run PT n) b ⟨l, z, d⟩ h').bind fun (fl, l) h => match fl with
      | .next | .cont => (run PT n).forL t v (i + 1) b ⟨l, z, d⟩ h
      | .brk => R.ok (.next, l) h
      | .ret v => .ok (.ret v, l) h) (fun n => ?_) (W.bind ((wpxs_ok b l z d _ _ _ _ _ _ w).mono (fun p h w => ?_) fun zz zz zz e => e))⟩
  · show forF (run PT n) t v i b ⟨l₀, z, d⟩ h = _
    unfold forF
    rw [hs]
    dsimp only
    rw [ha] <;> rfl
  · obtain ⟨fl, l⟩ := p
    cases fl
    · exact w.p
    · exact W.pure w
    · exact w.p
    · exact W.pure w
theorem Wfor.stop {t : Tg} {v : V} {i : Nat} {b : List S} {l : Lc} {z : Cl} {d : Nat} {h : Hp} {N B C : QL} {Rt : QV} {E : QE} (hs : srcAt h i v = some none) (q : N l h) : Wfor t v i b l z d h N B C Rt E := by
  refine ⟨W.succ (y := fun zz => .ok (.next, l) h) (fun n => ?_) (W.pure q)⟩
  show forF (run PT n) t v i b ⟨l, z, d⟩ h = _
  unfold forF
  rw [hs]
theorem Wzip.step {t : Tg} {v v' u w' : V} {i : Nat} {b : List S} {l₀ l : Lc} {z : Cl} {d : Nat} {h h' : Hp} {N B C : QL} {Rt : QV} {E : QE} (hs : srcAt h i v = some (some v')) (hs' : srcAt h i u = some (some w')) (ha : asgT ⟨l₀, z, d⟩ h t (.tup [v', w']) = some (l, h'))
    (w : wpxs b l z d h' (fun l h => Wzip t v u (i + 1) b l z d h N B C Rt E) (fun l h => N l h) (fun l h => Wzip t v u (i + 1) b l z d h N B C Rt E) Rt E) : Wzip t v u i b l₀ z d h N B C Rt E := by
  refine ⟨W.succ (y := fun n => (exs (run PT n) b ⟨l, z, d⟩ h').bind fun (fl, l) h => match fl with
      | .next | .cont => (run PT n).forZ t v u (i + 1) b ⟨l, z, d⟩ h
      | .brk => R.ok (.next, l) h
      | .ret v => .ok (.ret v, l) h) (fun n => ?_) (W.bind ((wpxs_ok b l z d _ _ _ _ _ _ w).mono (fun p h w => ?_) fun zz zz zz e => e))⟩
  · show forZF (run PT n) t v u i b ⟨l₀, z, d⟩ h = _
    unfold forZF
    rw [hs]
    rw [hs']
    dsimp only
    rw [ha] <;> rfl
  · obtain ⟨fl, l⟩ := p
    cases fl
    · exact w.p
    · exact W.pure w
    · exact w.p
    · exact W.pure w
theorem Wzip.stop {t : Tg} {v w : V} {o : Option V} {i : Nat} {b : List S} {l : Lc} {z : Cl} {d : Nat} {h : Hp} {N B C : QL} {Rt : QV} {E : QE} (hs : srcAt h i v = some none) (hs' : srcAt h i w = some o) (q : N l h) : Wzip t v w i b l z d h N B C Rt E := by
  refine ⟨W.succ (y := fun zz => .ok (.next, l) h) (fun n => ?_) (W.pure q)⟩
  show forZF (run PT n) t v w i b ⟨l, z, d⟩ h = _
  unfold forZF
  rw [hs]
  dsimp only
  rw [hs']
theorem Wcm.step {e : T} {t : Tg} {src v' : V} {cs : List T} {i : Nat} {acc : List V} {l₀ l : Lc} {z : Cl} {d : Nat} {h h' : Hp} {Q : List V → Hp → Prop} (hs : srcAt h i src = some (some v')) (ha : asgT ⟨l₀, z, d⟩ h t v' = some (l, h')) (hl : acc.length ≤ LIM)
    (w : wtsts cs l z d h' (fun b h => Br b (wpe e l z d h (fun v h => Wcm e t src cs (i + 1) (acc ++ [v]) l z d h Q) (fun zz zz zz => False)) (Wcm e t src cs (i + 1) acc l z d h Q)) (fun zz zz zz => False)) : Wcm e t src cs i acc l₀ z d h Q := by
  refine ⟨W.succ (y := fun n => (tsts (run PT n) ⟨l, z, d⟩ cs h').bind fun b h => if b then ((run PT n).ev e ⟨l, z, d⟩ h).bind fun v h => if acc.length ≤ LIM then (run PT n).compL e t src cs (i + 1) (acc ++ [v]) ⟨l, z, d⟩ h else .no
        else (run PT n).compL e t src cs (i + 1) acc ⟨l, z, d⟩ h) (fun n => ?_) (W.bind ((wtsts_ok cs l z d _ _ _ w).mono (fun b h w => ?_) fun zz zz zz e => e))⟩
  · show compF (run PT n) e t src cs i acc ⟨l₀, z, d⟩ h = _
    unfold compF
    rw [hs]
    dsimp only
    rw [ha]
  · exact W.ite (w.map (fun p => W.bind ((wpe_ok e l z d _ _ _ p).mono (fun v h w => W.congr (fun n => if_pos hl) w.p) fun zz zz zz e => e)) fun p => p.p)
theorem Wcm.stop {e : T} {t : Tg} {src : V} {cs : List T} {i : Nat} {acc : List V} {l : Lc} {z : Cl} {d : Nat} {h : Hp} {Q : List V → Hp → Prop} (hs : srcAt h i src = some none) (q : Q acc h) : Wcm e t src cs i acc l z d h Q := by
  refine ⟨W.succ (y := fun zz => .ok acc h) (fun n => ?_) (W.pure q)⟩
  show compF (run PT n) e t src cs i acc ⟨l, z, d⟩ h = _
  unfold compF
  rw [hs]
end Mine.Internal
end

section
open PySem
set_option autoImplicit false
namespace Mine.Internal
theorem Wc.fn0 {d a : Nat} {fi : FI} {as vs : List V} {l : List (Nat × V)} {h h' : Hp} {Q : QV} {E : QE} (hd : d < 60) (hf : PT.fn a = some fi) (hc : fi.cells = []) (hb : bindP fi as = some vs)
    (ha : asgTs ⟨[], [], d + 1⟩ h fi.params vs = some (l, h'))
    (w : wpxs fi.body l [] (d + 1) h' (fun zz h => Q .none h) noL noL Q E) : Wc d (.top a) as h Q E := by
  refine Wc.fn hf hd hb ?_ ?_ (l := l) (h' := h')
  · rw [hc]; exact ha
  · rw [hc]; exact w
theorem attr_of {h : Hp} {k c f : Nat} {fs : List (Nat × V)} {v : V} (hk : h[k]? = some (.inst c fs)) (hf : PT.fld c f = true) (hl : lk f fs = some v) : attrV PT h (.ref k) f = some v := by
  unfold attrV
  dsimp only
  rw [hk]
  dsimp only
  rw [if_pos hf, hl]
theorem len_str {h : Hp} {l : List Nat} (hl : l.length ≤ LIM) : biV h .len [.str l] = some (.int l.length) := if_pos hl
theorem meth_of {h : Hp} {k c f g : Nat} {fs : List (Nat × V)} (hk : h[k]? = some (.inst c fs)) (hl : lk f fs = none) (hf : PT.meth c f = some g) : findM PT (.ref k) f h = some (.fn g) := by
  unfold findM
  dsimp only
  rw [hk]
  dsimp only
  rw [hl, hf]
theorem app_of {h : Hp} {k : Nat} {vs : List V} (hk : h[k]? = some (.list vs)) : findM PT (.ref k) 81 h = some (.app k) := by
  unfold findM
  dsimp only
  rw [hk]
  rfl
noncomputable def Ex (S : Nat → Prop) (h h' : Hp) : Prop := ∀ (j : Nat) (o : O), h[j]? = some o → ¬ S j → h'[j]? = some o
noncomputable def Old (h h' : Hp) : Prop := ∀ (j : Nat) (o : O), h[j]? = some o → h'[j]? = some o
theorem Old.refl {h : Hp} : Old h h := fun zz zz e => e
theorem Old.trans {a b c : Hp} (x : Old a b) (y : Old b c) : Old a c := fun j o e => y j o (x j o e)
theorem Ex.refl {S : Nat → Prop} {h : Hp} : Ex S h h := fun zz zz e zz => e
theorem Ex.trans {S : Nat → Prop} {a b c : Hp} (x : Ex S a b) (y : Ex S b c) : Ex S a c := fun j o e n => y j o (x j o e n) n
theorem Old.ex {S : Nat → Prop} {a b : Hp} (x : Old a b) : Ex S a b := fun j o e zz => x j o e
theorem lt_of {h : Hp} {j : Nat} {o : O} (e : h[j]? = some o) : j < h.length := by
  obtain ⟨x, zz⟩ := List.getElem?_eq_some_iff.mp e
  exact x
theorem get_set {h : Hp} {k : Nat} {o o' : O} (e : h[k]? = some o) : (h.set k o')[k]? = some o' := by
  rw [List.getElem?_set_self (lt_of e)]
theorem ex_set {h : Hp} {k : Nat} {o : O} : Ex (· = k) h (h.set k o) := fun j o' e n => by
  rw [List.getElem?_set_ne (fun x => n x.symm)]; exact e
theorem New.go {h : Hp} {o : O} {q : Nat → Hp → Prop} (w : ∀ n h', h[n]? = none → h'[n]? = some o → Old h h' → q n h') : New h o q := by
  refine ⟨w _ _ ?_ ?_ fun j o' e => ?_⟩
  · exact List.getElem?_eq_none (Nat.le_refl _)
  · rw [List.getElem?_append_right (Nat.le_refl _), Nat.sub_self]; rfl
  · rw [List.getElem?_append_left (lt_of e)]; exact e
theorem SetA.go {h : Hp} {k c n : Nat} {fs : List (Nat × V)} {v : V} {q : Hp → Prop} (hk : h[k]? = some (.inst c fs)) (hf : (PT.fld c n && decide (fs.length < 100)) = true)
    (w : ∀ h', h'[k]? = some (.inst c (put n v fs)) → Ex (· = k) h h' → q h') : SetA h (.ref k) n v q :=
  ⟨k, c, fs, rfl, hk, hf, w _ (get_set hk) ex_set⟩
theorem SetI.go {h : Hp} {k j : Nat} {i : Int} {vs : List V} {v : V} {q : Hp → Prop} (hk : h[k]? = some (.list vs)) (hj : seqPos vs.length i = some j) (hi : i.natAbs ≤ LIM)
    (w : ∀ h', h'[k]? = some (.list (vs.set j v)) → Ex (· = k) h h' → q h') : SetI h (.ref k) (.int i) v q :=
  ⟨k, i, vs, j, rfl, rfl, hk, hj, hi, w _ (get_set hk) ex_set⟩
theorem AppO.go {h : Hp} {k : Nat} {vs : List V} {v : V} {q : Hp → Prop} (hk : h[k]? = some (.list vs)) (hj : vs.length ≤ LIM)
    (w : ∀ h', h'[k]? = some (.list (vs ++ [v])) → Ex (· = k) h h' → q h') : AppO h k [v] q :=
  ⟨v, vs, rfl, hk, hj, w _ (get_set hk) ex_set⟩
theorem Wc.cls' {d a i : Nat} {as : List V} {h : Hp} {Q : QV} {E : QE} (hd : d < 60) (hf : PT.fn a = none) (hi : PT.init a = some i)
    (w : ∀ n h', h[n]? = none → h'[n]? = some (.inst a []) → Old h h' → Wc (d + 1) (.top i) (.ref n :: as) h' (fun v h' => match v with | .none => Q (.ref n) h' | _ => False) E) : Wc d (.top a) as h Q E := by
  refine Wc.cls hf hi hd (w _ _ ?_ ?_ fun j o' e => ?_)
  · exact List.getElem?_eq_none (Nat.le_refl _)
  · rw [List.getElem?_append_right (Nat.le_refl _), Nat.sub_self]; rfl
  · rw [List.getElem?_append_left (lt_of e)]; exact e
theorem ne_of {h : Hp} {j k : Nat} {a b : O} (x : h[j]? = some a) (y : h[k]? = some b) (n : a ≠ b) : j ≠ k := fun e => n (by
  rw [e, y] at x; cases x; rfl)
theorem ne_new {h : Hp} {j k : Nat} {a : O} (x : h[j]? = some a) (y : h[k]? = none) : j ≠ k := fun e => by
  rw [e, y] at x; cases x
theorem lk_put {α : Type} {x : Nat} {v : α} : ∀ {l : List (Nat × α)}, lk x (put x v l) = some v
  | [] => by
    show (if Nat.beq x x then some v else none) = _
    rw [if_pos (Nat.beq_refl x)]
  | (y, w) :: r => by
    show lk x (if Nat.beq x y then (y, v) :: r else (y, w) :: put x v r) = _
    by_cases e : Nat.beq x y = true
    · rw [if_pos e]
      show (if Nat.beq x y then some v else lk x r) = _
      rw [if_pos e]
    · rw [if_neg e]
      show (if Nat.beq x y then some w else lk x (put x v r)) = _
      rw [if_neg e, lk_put]
theorem lk_ne {α : Type} {x y : Nat} {v : α} (n : Nat.beq x y = false) : ∀ {l : List (Nat × α)}, lk x (put y v l) = lk x l
  | [] => by
    show (if Nat.beq x y then some v else none) = _
    rw [n]; rfl
  | (z, w) :: r => by
    show lk x (if Nat.beq y z then (z, v) :: r else (z, w) :: put y v r) = _
    by_cases e : Nat.beq y z = true
    · rw [if_pos e]
      have := Nat.eq_of_beq_eq_true e
      subst this
      show (if Nat.beq x y then some v else lk x r) = (if Nat.beq x y then some w else lk x r)
      rw [n]; rfl
    · rw [if_neg e]
      show (if Nat.beq x z then some w else lk x (put y v r)) = (if Nat.beq x z then some w else lk x r)
      rw [lk_ne n]
theorem isSrc_list {h : Hp} {n : Nat} {vs : List V} (e : h[n]? = some (.list vs)) : isSrc h (.ref n) = true := by
  unfold isSrc
  dsimp only
  rw [e]
theorem canCall_clos {h : Hp} {n k : Nat} {cs : List (Nat × Nat)} (e : h[n]? = some (.clos k cs)) : canCall PT h (.ref n) = true := by
  unfold canCall
  dsimp only
  rw [e]
noncomputable def All2 {α β : Type} (R : α → β → Prop) : List α → List β → Prop
  | [], bs => (match bs with | [] => True | _ :: _ => False)
  | a :: as, bs => (match bs with | [] => False | b :: bs => R a b ∧ All2 R as bs)
section
variable {α β : Type} {R S : α → β → Prop}
theorem All2.len : ∀ {as : List α} {bs : List β}, All2 R as bs → as.length = bs.length := by
  intro as
  induction as with
  | nil => intro bs x; cases bs with
    | nil => rfl
    | cons b bs => exact False.elim x
  | cons a as ih => intro bs x; cases bs with
    | nil => exact False.elim x
    | cons b bs => exact congrArg (· + 1) (ih x.2)
theorem All2.mono : ∀ {as : List α}, (∀ a ∈ as, ∀ b, R a b → S a b) → ∀ {bs : List β}, All2 R as bs → All2 S as bs := by
  intro as
  induction as with
  | nil => intro H bs x; exact x
  | cons a as ih => intro H bs x; cases bs with
    | nil => exact False.elim x
    | cons b bs => exact ⟨H a (.head _) b x.1, ih (fun a ha => H a (.tail _ ha)) x.2⟩
theorem All2.app {a : α} {b : β} (r : R a b) : ∀ {as : List α} {bs : List β}, All2 R as bs → All2 R (as ++ [a]) (bs ++ [b]) := by
  intro as
  induction as with
  | nil => intro bs x; cases bs with
    | nil => exact ⟨r, trivial⟩
    | cons b bs => exact False.elim x
  | cons a as ih => intro bs x; cases bs with
    | nil => exact False.elim x
    | cons b bs => exact ⟨x.1, ih x.2⟩
theorem All2.zip : ∀ {as : List α} {bs : List β}, All2 R as bs → ∃ zs : List (α × β), as = zs.map Prod.fst ∧ bs = zs.map Prod.snd ∧ ∀ z ∈ zs, R z.1 z.2 := by
  intro as
  induction as with
  | nil => intro bs x; cases bs with
    | nil => exact ⟨[], rfl, rfl, fun z hz => nomatch hz⟩
    | cons b bs => exact False.elim x
  | cons a as ih => intro bs x; cases bs with
    | nil => exact False.elim x
    | cons b bs =>
      obtain ⟨zs, e1, e2, k⟩ := ih x.2
      exact ⟨(a, b) :: zs, congrArg (a :: ·) e1, congrArg (b :: ·) e2, List.forall_mem_cons.mpr ⟨x.1, k⟩⟩
theorem All2.at : ∀ {as : List α} {bs : List β}, All2 R as bs → ∀ {i : Nat} {a : α}, as[i]? = some a → ∃ b, bs[i]? = some b ∧ R a b := by
  intro as
  induction as with
  | nil => intro bs x i a e; exact no_some e
  | cons a as ih => intro bs x i c e; cases bs with
    | nil => exact False.elim x
    | cons b bs => cases i with
      | zero => exact ⟨b, rfl, Option.some.inj e ▸ x.1⟩
      | succ i => exact ih x.2 (i := i) e
theorem All2.get : ∀ {as : List α} {bs : List β}, All2 R as bs → ∀ {i : Nat} {b : β}, bs[i]? = some b → ∃ a, as[i]? = some a ∧ R a b := by
  intro as
  induction as with
  | nil => intro bs x i a e; cases bs with
    | nil => exact no_some e
    | cons b bs => exact False.elim x
  | cons a as ih => intro bs x i c e; cases bs with
    | nil => exact False.elim x
    | cons b bs => cases i with
      | zero => exact ⟨a, rfl, Option.some.inj e ▸ x.1⟩
      | succ i => exact ih x.2 (i := i) e
end
end Mine.Internal
end

local macro_rules | `(tactic| walk_at "dd") => `(tactic| first | exact Mine.Internal.om0 ‹_› rfl | exact Mine.Internal.om1 ‹_› rfl | exact Mine.Internal.om2 ‹_› rfl | exact Mine.Internal.om3 ‹_› rfl | exact Mine.Internal.om16 ‹_› rfl | ((try dsimp only); omega))
local macro_rules | `(tactic| walk_at "lk") => `(tactic| first
  | assumption
  | exact Mine.Internal.lk_put
  | (refine (Mine.Internal.lk_ne rfl).trans ?_; walk_at "lk"))
local macro_rules | `(tactic| walk_at "st") => `(tactic| first
  | refine Mine.Internal.OkO.is _ (Mine.Internal.attr_of (by assumption) rfl rfl) ?_
  | refine Mine.Internal.OkO.is _ (Mine.Internal.len_str (by assumption)) ?_
  | refine Mine.Internal.OkO.is _ (Mine.Internal.meth_of (by assumption) rfl rfl) ?_
  | refine Mine.Internal.OkO.is _ (Mine.Internal.app_of (by assumption)) ?_)
local macro_rules | `(tactic| walk_at "sb") => `(tactic| first
  | walk_at "st"
  | refine Mine.Internal.OkB.mk (Mine.Internal.isSrc_list (by assumption)) ?_
  | refine Mine.Internal.OkB.mk (Mine.Internal.canCall_clos (by assumption)) ?_
  | refine Mine.Internal.OkO.is _ (by walk_at "lk") ?_)

section
open PySem
set_option autoImplicit false
namespace Mine.Internal
section
variable {d : Nat} {h : Hp} {Q : QV} {E : QE}
noncomputable def sp (c : Nat) : Bool := [32, 9, 10, 13].contains c
theorem c_is_space {c : Nat} (hd : d < 60) (q : Q (.bool (sp c)) h) : Wc d (.top 368) [.str [c]] h Q E := by
  refine Wc.fn0 hd rfl rfl rfl rfl ?_
  repeat walk_at "st"
  refine Br.by (fun e => ?_) (fun e => ?_)
  · repeat walk_at "st"
    rw [show sp c = true from e] at q
    exact q
  · rw [show sp c = false from e] at q
    exact q
theorem c_is_small_letter {c : Nat} (hd : d < 60) (q : Q (.bool (decide (97 ≤ c) && decide (c ≤ 122))) h) : Wc d (.top 375) [.str [c]] h Q E := by
  refine Wc.fn0 hd rfl rfl rfl rfl ?_
  repeat walk_at "st"
  refine Br.by (fun e => ?_) (fun e => ?_)
  · repeat walk_at "st"
    rw [e] at q
    exact q
  · rw [e] at q
    exact q
noncomputable def nst (c : Nat) : Bool := (decide (97 ≤ c) && decide (c ≤ 122)) || ((decide (65 ≤ c) && decide (c ≤ 90)) || (decide ([c] = [95]) || decide ([c] = [58])))
theorem c_is_name_start {c : Nat} (hd : d + 1 < 60) (hc : c < 128) (q : Q (.bool (nst c)) h) : Wc d (.top 382) [.str [c]] h Q E := by
  refine Wc.fn0 (om0 ‹_› rfl) rfl rfl rfl rfl ?_
  repeat walk_at "st"
  refine Br.t (by simp; omega) ?_
  repeat walk_at "st"
  refine c_is_small_letter hd ?_
  refine Br.by (fun e => ?_) (fun e => ?_)
  · rw [show nst c = true by simp only [nst, e, Bool.true_or]] at q; exact q
  repeat walk_at "st"
  unfold nst at q
  rw [e, Bool.false_or] at q
  refine Br.by (fun e => ?_) (fun e => ?_)
  · rw [e] at q
    repeat walk_at "st"
    refine Br.by (fun e => ?_) (fun e => ?_)
    · rw [e] at q; exact q
    · rw [e, Bool.true_and, Bool.false_or] at q
      repeat walk_at "st"
      refine Br.by (fun e => ?_) (fun e => ?_)
      · rw [e] at q; exact q
      · repeat walk_at "st"
        rw [e] at q; exact q
  · rw [e, Bool.false_and, Bool.false_or] at q
    refine Br.f rfl ?_
    repeat walk_at "st"
    refine Br.by (fun e => ?_) (fun e => ?_)
    · rw [e] at q; exact q
    · repeat walk_at "st"
      rw [e] at q; exact q
noncomputable def nch (c : Nat) : Bool := nst c || ((decide (48 ≤ c) && decide (c ≤ 57)) || (decide ([c] = [45]) || decide ([c] = [46])))
theorem c_is_name_char {c : Nat} (hd : d + 2 < 60) (hc : c < 128) (q : Q (.bool (nch c)) h) : Wc d (.top 389) [.str [c]] h Q E := by
  refine Wc.fn0 (om0 ‹_› rfl) rfl rfl rfl rfl ?_
  repeat walk_at "st"
  refine c_is_name_start ‹_› hc ?_
  unfold nch at q
  refine Br.by (fun e => ?_) (fun e => ?_)
  · rw [e] at q; exact q
  rw [e, Bool.false_or] at q
  repeat walk_at "st"
  refine Br.t (by simp; omega) ?_
  repeat walk_at "st"
  refine Br.by (fun e => ?_) (fun e => ?_)
  · rw [e] at q
    repeat walk_at "st"
    refine Br.by (fun e => ?_) (fun e => ?_)
    · rw [e] at q; exact q
    · rw [e, Bool.true_and, Bool.false_or] at q
      repeat walk_at "st"
      refine Br.by (fun e => ?_) (fun e => ?_)
      · rw [e] at q; exact q
      · repeat walk_at "st"
        rw [e] at q; exact q
  · rw [e, Bool.false_and, Bool.false_or] at q
    refine Br.f rfl ?_
    repeat walk_at "st"
    refine Br.by (fun e => ?_) (fun e => ?_)
    · rw [e] at q; exact q
    · repeat walk_at "st"
      rw [e] at q; exact q
theorem mod_of {h : Hp} {a b : Int} (hb : b ≠ 0) : binV .mod (.int a) (.int b) = some (.int (a.fmod b)) := if_neg hb
theorem fdiv_of {h : Hp} {a b : Int} (hb : b ≠ 0) (hs : b.natAbs < 1073741824) : binV .fdiv (.int a) (.int b) = some (.int (a.fdiv b)) := if_neg (by omega)
theorem mul_of {a b : Int} (hb : b.natAbs < 18446744073709551616) : binV .mul (.int a) (.int b) = some (.int (a * b)) := if_pos hb
theorem add_of {a b : List Nat} (hl : a.length + b.length ≤ LIM) : binV .add (.str a) (.str b) = some (.str (a ++ b)) := if_pos hl
theorem c_common_divisor {i : Int} (hd : d < 60) (hi : 0 ≤ i) (q : Q (.int 1) h) : Wc d (.top 65) [.int i, .int 1] h Q E := by
  refine Wc.fn0 hd rfl rfl rfl rfl ?_
  repeat walk_at "st"
  refine Wl.step ?_
  repeat walk_at "st"
  refine Br.t rfl ?_
  repeat walk_at "st"
  refine Wl.step ?_
  repeat walk_at "st"
  refine Br.f ?_ ?_
  · simp [Int.fmod_one]
  repeat walk_at "st"
  exact q
theorem c_number_of {i : Int} (hd : d + 1 < 60) (hi : 0 ≤ i) (q : Q (.tup [.int i, .int 1]) h) : Wc d (.top 80) [.int i, .int 1] h Q E := by
  refine Wc.fn0 (om0 ‹_› rfl) rfl rfl rfl rfl ?_
  repeat walk_at "st"
  refine Br.f rfl ?_
  repeat walk_at "st"
  refine Br.f rfl ?_
  repeat walk_at "st"
  refine c_common_divisor hd hi ?_
  repeat walk_at "st"
  have e1 : i.fdiv 1 = i := Int.fdiv_one ..
  have e2 : (1 : Int).fdiv 1 = 1 := rfl
  rw [show V.tup [.int i, .int 1] = .tup [.int (i.fdiv 1), .int ((1 : Int).fdiv 1)] by rw [e1, e2]] at q
  exact q
theorem c_word_init {j : Nat} {a b c : V} (hd : d < 60) (hj : h[j]? = some (.inst 433 [])) (q : ∀ h', h'[j]? = some (.inst 433 [(69, a), (70, b), (71, c)]) → Ex (· = j) h h' → Q .none h') : Wc d (.top 409) [.ref j, a, b, c] h Q E := by
  refine Wc.fn0 hd rfl rfl rfl rfl ?_
  repeat walk_at "st"
  refine SetA.go hj rfl fun h1 k1 x1 => ?_
  repeat walk_at "st"
  refine SetA.go k1 rfl fun h2 k2 x2 => ?_
  repeat walk_at "st"
  refine SetA.go k2 rfl fun h3 k3 x3 => ?_
  exact q h3 k3 ((x1.trans x2).trans x3)
theorem c_word {a b c : V} (hd : d + 1 < 60) (q : ∀ n h', h[n]? = none → h'[n]? = some (.inst 433 [(69, a), (70, b), (71, c)]) → Old h h' → Q (.ref n) h') : Wc d (.top 433) [a, b, c] h Q E := by
  refine Wc.cls' (om0 ‹_› rfl) rfl rfl fun n h1 f1 k1 o1 => ?_
  refine c_word_init ‹_› k1 fun h2 k2 x2 => ?_
  exact q n h2 f1 k2 fun j o e => x2 j o (o1 j o e) (ne_new e f1)
theorem c_is_sign {j : Nat} {a b t : List Nat} {c : V} (hd : d < 60) (hj : h[j]? = some (.inst 433 [(69, .str a), (70, .str b), (71, c)])) (q : Q (.bool (decide (a = [115, 105, 103, 110]) && decide (b = t))) h) : Wc d (.top 416) [.ref j, .str t] h Q E := by
  refine Wc.fn0 hd rfl rfl rfl rfl ?_
  repeat walk_at "st"
  refine Br.by (fun e => ?_) (fun e => ?_)
  · repeat walk_at "st"
    rw [e] at q; exact q
  · rw [e] at q; exact q
theorem c_is_operator {j : Nat} {a b t : List Nat} {c : V} (hd : d < 60) (hj : h[j]? = some (.inst 433 [(69, .str a), (70, .str b), (71, c)])) (q : Q (.bool (decide (a = [111, 112, 101, 114, 97, 116, 111, 114]) && decide (b = t))) h) : Wc d (.top 423) [.ref j, .str t] h Q E := by
  refine Wc.fn0 hd rfl rfl rfl rfl ?_
  repeat walk_at "st"
  refine Br.by (fun e => ?_) (fun e => ?_)
  · repeat walk_at "st"
    rw [e] at q; exact q
  · rw [e] at q; exact q
end
end Mine.Internal
end

section
open PySem
set_option autoImplicit false
namespace Mine.Internal
noncomputable def nth : List S → Nat → S
  | [], _ => .junk
  | s :: _, 0 => s
  | _ :: r, n + 1 => nth r n
theorem drop_cons {t r : List Nat} {i c : Nat} (e : t.drop i = c :: r) : t[i]? = some c ∧ t.drop (i + 1) = r ∧ i < t.length := by
  have hi : i < t.length := by
    by_cases h : i < t.length
    · exact h
    · rw [List.drop_eq_nil_of_le (by omega)] at e; cases e
  rw [List.drop_eq_getElem_cons hi] at e
  injection e with e1 e2
  exact ⟨by rw [List.getElem?_eq_getElem hi, e1], e2, hi⟩
theorem drop_nil {t : List Nat} {i : Nat} (e : t.drop i = []) : t[i]? = none ∧ t.length ≤ i := by
  have := List.drop_eq_nil_iff.mp e
  exact ⟨List.getElem?_eq_none this, this⟩
theorem drop_app {t a b : List Nat} {i : Nat} (e : t.drop i = a ++ b) : t.drop (i + a.length) = b := by
  rw [← List.drop_drop, e, List.drop_left]
theorem drop_cut {t a b : List Nat} {i : Nat} (e : t.drop i = a ++ b) : cut t i (i + a.length) = a := by
  unfold cut
  rw [List.drop_take, e, Nat.add_sub_cancel_left, List.take_left]
noncomputable def Wd (h : Hp) (r : V) (w : List Nat × List Nat) : Prop := ∃ j p, r = .ref j ∧ h[j]? = some (.inst 433 [(69, .str w.1), (70, .str w.2), (71, p)])
noncomputable abbrev Ws (h : Hp) (rs : List V) (ws : List (List Nat × List Nat)) : Prop := All2 (Wd h) rs ws
theorem Ws.mono {h h' : Hp} (x : ∀ (j : Nat) (p : V) (a b : List Nat), h[j]? = some (.inst 433 [(69, .str a), (70, .str b), (71, p)]) → h'[j]? = some (.inst 433 [(69, .str a), (70, .str b), (71, p)])) {rs : List V} {ws : List (List Nat × List Nat)} (w : Ws h rs ws) : Ws h' rs ws :=
  All2.mono (fun zz zz zz y => y.elim fun j y => y.elim fun p y => ⟨j, p, y.1, x _ _ _ _ y.2⟩) w
noncomputable abbrev ScC (h : Hp) (k m : Nat) (t : List Nat) (i : Nat) : Prop := h[k]? = some (.inst 553 [(70, .str t), (75, .int i), (76, .ref m)])
structure SF (h : Hp) (m : Nat) (ws : List (List Nat × List Nat)) : Prop where
  p : ∃ rs, h[m]? = some (.list rs) ∧ Ws h rs ws
theorem SF.at {h h' : Hp} {k m i : Nat} {t : List Nat} {ws : List (List Nat × List Nat)} (f : SF h m ws) (s : ScC h k m t i) (x : Ex (· = k) h h') : SF h' m ws := by
  obtain ⟨rs, e, w⟩ := f
  exact ⟨rs, x _ _ e (ne_of e s (by intro q; cases q)), w.mono fun j p a b e => x _ _ e (ne_of e s (by intro q; cases q))⟩
noncomputable def E2 (k m : Nat) (h h' : Hp) : Prop := Ex (fun j => j = k ∨ j = m) h h'
theorem E2.of {k m : Nat} {h h' : Hp} (x : Ex (· = k) h h') : E2 k m h h' := fun j o e n => x j o e fun q => n (.inl q)
theorem E2.of' {k m : Nat} {h h' : Hp} (x : Ex (· = m) h h') : E2 k m h h' := fun j o e n => x j o e fun q => n (.inr q)
section
variable {d k m i : Nat} {t : List Nat} {h : Hp} {Q : QV} {E : QE}
theorem c_sign {a : Nat} (hd : d < 60) (hl : t.length ≤ LIM) (hs : ScC h k m t i) (q : Q (.str (t[i + a]?).toList) h) : Wc d (.top 459) [.ref k, .int a] h Q E := by
  refine Wc.fn0 hd rfl rfl rfl rfl ?_
  repeat walk_at "st"
  refine Br.by (fun e => ?_) (fun e => ?_)
  · repeat walk_at "st"
    simp at e
    have hi : i + a < t.length := by omega
    rw [List.getElem?_eq_getElem hi] at q
    refine OkO.is _ ?_ q
    show (if 0 ≤ (i : Int) + a ∧ _ ∧ _ then _ else none) = _
    unfold LIM at *
    rw [if_pos (by omega), show ((i : Int) + a).toNat = i + a by exact rfl, List.getElem?_eq_getElem hi]
    rfl
  · simp at e
    rw [List.getElem?_eq_none (by omega)] at q
    exact q
theorem c_sign0 (hd : d < 60) (hl : t.length ≤ LIM) (hs : ScC h k m t i) (q : Q (.str (t[i]?).toList) h) : Wc d (.top 459) [.ref k] h Q E := by
  refine Wc.fn0 hd rfl rfl rfl rfl ?_
  repeat walk_at "st"
  refine Br.by (fun e => ?_) (fun e => ?_)
  · repeat walk_at "st"
    simp at e
    have hi : i < t.length := by exact ‹_›
    rw [List.getElem?_eq_getElem hi] at q
    refine OkO.is _ ?_ q
    show (if 0 ≤ (i : Int) + 0 ∧ _ ∧ _ then _ else none) = _
    unfold LIM at *
    rw [if_pos (by omega), show ((i : Int) + 0).toNat = i by exact rfl, List.getElem?_eq_getElem hi]
    rfl
  · simp at e
    rw [List.getElem?_eq_none ‹_›] at q
    exact q
theorem c_add {ws : List (List Nat × List Nat)} {a b : List Nat} {p : V} (hd : d + 2 < 60) (hs : ScC h k m t i) (hf : SF h m ws) (hw : ws.length ≤ LIM) (q : ∀ h', ScC h' k m t i → SF h' m (ws ++ [(a, b)]) → E2 k m h h' → Q .none h') : Wc d (.top 466) [.ref k, .str a, .str b, p] h Q E := by
  refine Wc.fn0 (om0 ‹_› rfl) rfl rfl rfl rfl ?_
  obtain ⟨rs, hr, hws⟩ := hf
  repeat walk_at "st"
  refine c_word ‹_› fun n h1 f1 k1 o1 => ?_
  refine AppO.go (o1 _ _ hr) (by rw [hws.len]; exact hw) fun h2 k2 x2 => ?_
  have nm : n ≠ m := fun e => by rw [e, hr] at f1; cases f1
  refine q h2 ?_ ?_ ?_
  · exact x2 _ _ (o1 _ _ hs) (ne_of hs hr (by intro q; cases q))
  · refine ⟨_, k2, All2.app ⟨n, p, rfl, x2 _ _ k1 nm⟩ (hws.mono fun j p a b e => x2 _ _ (o1 _ _ e) (ne_of e hr (by intro q; cases q)))⟩
  · intro j o e n'
    exact x2 _ _ (o1 _ _ e) fun q => n' (.inr q)
theorem seq_int {a b : Int} (e : a = b) : V.int a = V.int b := by rw [e]
theorem idx_str {h : Hp} {c : Nat} (e : t[i]? = some c) (hl : t.length ≤ LIM) : idxV h (.str t) (.int i) = some (.str [c]) := by
  obtain ⟨hi, e⟩ := List.getElem?_eq_some_iff.mp e
  show (if 0 ≤ (i : Int) ∧ _ ∧ _ then _ else none) = _
  unfold LIM at *
  rw [if_pos (by omega), show (i : Int).toNat = i by exact rfl, List.getElem?_eq_getElem hi, e]
  rfl
theorem skip_loop {N : QL} {B C : QL} {Rt : QV} (hd : d < 60) (hl : t.length ≤ LIM) : ∀ (s i : Nat) (r : List Nat) (h : Hp), t.drop i = List.replicate s 32 ++ r → (∀ c r', r = c :: r' → sp c = false) → ScC h k m t i → (∀ l h', ScC h' k m t (i + s) → Ex (· = k) h h' → N l h') → Wl (nth fi_PathScanner_skip.body 0) [(4, .ref k)] [] d h N B C Rt E := by
  intro s
  induction s with
  | zero =>
    intro i r h e hr hs q
    refine Wl.step ?_
    repeat walk_at "st"
    refine Br.by (fun e1 => ?_) (fun e1 => ?_)
    · cases r with
      | nil =>
        have := (drop_nil e).2
        simp at e1
        omega
      | cons c r' =>
        repeat walk_at "st"
        refine OkO.is _ (idx_str (drop_cons e).1 hl) ?_
        repeat walk_at "st"
        refine c_is_space hd ?_
        rw [hr c r' rfl]
        refine Br.f rfl ?_
        exact q _ _ hs Ex.refl
    · refine Br.f rfl ?_
      exact q _ _ hs Ex.refl
  | succ s ih =>
    intro i r h e hr hs q
    have e' : t.drop i = 32 :: (List.replicate s 32 ++ r) := e
    obtain ⟨g1, g2, g3⟩ := drop_cons e'
    refine Wl.step ?_
    repeat walk_at "st"
    refine Br.t (by simp; exact ‹_›) ?_
    repeat walk_at "st"
    refine OkO.is _ (idx_str g1 hl) ?_
    repeat walk_at "st"
    refine c_is_space hd ?_
    refine Br.t rfl ?_
    repeat walk_at "st"
    refine SetA.go hs rfl fun h1 k1 x1 => ?_
    refine ih (i + 1) r h1 g2 hr k1 fun l h2 k2 x2 => ?_
    exact q l h2 (by rw [show i + (s + 1) = i + 1 + s by exact om7]; exact k2) (x1.trans x2)
theorem c_skip {s : Nat} {r : List Nat} (hd : d + 1 < 60) (hl : t.length ≤ LIM) (e : t.drop i = List.replicate s 32 ++ r) (hr : ∀ c r', r = c :: r' → sp c = false) (hs : ScC h k m t i) (q : ∀ h', ScC h' k m t (i + s) → Ex (· = k) h h' → Q .none h') : Wc d (.top 480) [.ref k] h Q E := by
  refine Wc.fn0 (om0 ‹_› rfl) rfl rfl rfl rfl ?_
  exact skip_loop hd hl s i r h e hr hs fun l h' => q h'
end
end Mine.Internal
end

section
open PySem
set_option autoImplicit false
namespace Mine.Internal
noncomputable def dg (c : Nat) : Bool := [48, 49, 50, 51, 52, 53, 54, 55, 56, 57].contains c
section
variable {d k m i : Nat} {t : List Nat} {h : Hp} {Q : QV} {E : QE}
theorem fig_loop {N : QL} {B C : QL} {Rt : QV} (hd : d < 60) (hl : t.length ≤ LIM) : ∀ (ds : List Nat) (i : Nat) (r : List Nat) (h : Hp), t.drop i = ds ++ r → ds.all dg = true → (∀ c r', r = c :: r' → dg c = false) → ScC h k m t i → (∀ l h', ScC h' k m t (i + ds.length) → Ex (· = k) h h' → N l h') → Wl (nth fi_PathScanner_figures.body 0) [(4, .ref k)] [] d h N B C Rt E := by
  intro ds
  induction ds with
  | nil =>
    intro i r h e ha hr hs q
    refine Wl.step ?_
    repeat walk_at "st"
    refine c_sign0 hd hl hs ?_
    repeat walk_at "st"
    cases r with
    | nil =>
      rw [(drop_nil e).1]
      refine Br.f rfl ?_
      refine Br.f rfl ?_
      exact q _ _ hs Ex.refl
    | cons c r' =>
      rw [(drop_cons e).1]
      refine Br.t rfl ?_
      repeat walk_at "st"
      refine c_sign0 hd hl hs ?_
      repeat walk_at "st"
      rw [(drop_cons e).1]
      repeat walk_at "st"
      refine Br.f (hr c r' rfl) ?_
      exact q _ _ hs Ex.refl
  | cons c ds ih =>
    intro i r h e ha hr hs q
    have e' : t.drop i = c :: (ds ++ r) := e
    obtain ⟨g1, g2, g3⟩ := drop_cons e'
    obtain ⟨a1, a2⟩ := Bool.and_eq_true_iff.mp (show (dg c && ds.all dg) = true from ha)
    refine Wl.step ?_
    repeat walk_at "st"
    refine c_sign0 hd hl hs ?_
    repeat walk_at "st"
    rw [g1]
    refine Br.t rfl ?_
    repeat walk_at "st"
    refine c_sign0 hd hl hs ?_
    rw [g1]
    repeat walk_at "st"
    refine Br.t a1 ?_
    repeat walk_at "st"
    refine SetA.go hs rfl fun h1 k1 x1 => ?_
    refine ih (i + 1) r h1 g2 a2 hr k1 fun l h2 k2 x2 => ?_
    exact q l h2 (by rw [show i + (c :: ds).length = i + 1 + ds.length by simp; exact om7]; exact k2) (x1.trans x2)
theorem c_figures {ds r : List Nat} (hd : d + 1 < 60) (hl : t.length ≤ LIM) (e : t.drop i = ds ++ r) (ha : ds.all dg = true) (hr : ∀ c r', r = c :: r' → dg c = false) (hs : ScC h k m t i) (q : ∀ h', ScC h' k m t (i + ds.length) → Ex (· = k) h h' → Q .none h') : Wc d (.top 508) [.ref k] h Q E := by
  refine Wc.fn0 (om0 ‹_› rfl) rfl rfl rfl rfl ?_
  exact fig_loop hd hl ds i r h e ha hr hs fun l h' => q h'
theorem cut_of {a b : Nat} (hab : a ≤ b) (hl : t.length ≤ LIM) : cutV (.str t) (some (.int a)) (some (.int b)) = some (.str (cut t a b)) := by
  show (if 0 ≤ (a : Int) ∧ _ ∧ _ then _ else none) = _
  rw [if_pos (by omega)]
  rfl
variable {ws : List (List Nat × List Nat)}
theorem c_number {ds r : List Nat} (hd : d + 3 < 60) (hl : t.length ≤ LIM) (e : t.drop i = ds ++ r) (ha : ds.all dg = true) (hr : ∀ c r', r = c :: r' → dg c = false ∧ c ≠ 46) (hs : ScC h k m t i) (hf : SF h m ws) (hw : ws.length ≤ LIM) (q : ∀ h', ScC h' k m t (i + ds.length) → SF h' m (ws ++ [([110, 117, 109, 98, 101, 114], ds)]) → E2 k m h h' → Q .none h') : Wc d (.top 501) [.ref k] h Q E := by
  refine Wc.fn0 (om0 ‹_› rfl) rfl rfl rfl rfl ?_
  repeat walk_at "st"
  refine c_figures (by walk_at "dd") hl e ha (fun c r' e => (hr c r' e).1) hs fun h1 k1 x1 => ?_
  repeat walk_at "st"
  refine c_sign0 (by walk_at "dd") hl k1 ?_
  repeat walk_at "st"
  have hne : (t[i + ds.length]?).toList ≠ [46] := by
    have e2 := drop_app e
    cases r with
    | nil => rw [(drop_nil e2).1]; simp
    | cons c r' =>
      rw [(drop_cons e2).1]
      have := (hr c r' rfl).2
      simp [this]
  refine Br.f (decide_eq_false hne) ?_
  refine Br.f rfl ?_
  repeat walk_at "st"
  refine OkO.is _ (cut_of (Nat.le_add_right _ _) hl) ?_
  rw [drop_cut e]
  repeat walk_at "st"
  refine c_add (by walk_at "dd") k1 (hf.at hs x1) hw fun h2 k2 f2 x2 => ?_
  exact q h2 k2 f2 ((E2.of x1).trans x2)
theorem nbeq_ne {c x : Nat} (e : c ≠ x) : Nat.beq c x = false := by
  cases h : Nat.beq c x
  · rfl
  · exact absurd (Nat.eq_of_beq_eq_true h) e
theorem find1_spec {c : Nat} : ∀ (X r : List Nat) (n : Nat), X.contains c = false → find1 c (X ++ c :: r) n = ((n + X.length : Nat) : Int)
  | [], r, n, _ => by
    show (if Nat.beq c c then (n : Int) else _) = _
    rw [if_pos (Nat.beq_refl c)]
    rfl
  | x :: X, r, n, h => by
    simp only [List.contains_cons, Bool.or_eq_false_iff] at h
    show (if Nat.beq c x then (n : Int) else find1 c (X ++ c :: r) (n + 1)) = _
    have : Nat.beq c x = false := nbeq_ne (by simpa using h.1)
    rw [this, if_neg (by simp), find1_spec X r (n + 1) h.2]
    simp only [List.length_cons]
    omega
theorem c_literal {c : Nat} {X r : List Nat} (hd : d + 3 < 60) (hl : t.length ≤ LIM) (e : t.drop i = c :: (X ++ c :: r)) (hX : X.contains c = false) (hs : ScC h k m t i) (hf : SF h m ws) (hw : ws.length ≤ LIM) (q : ∀ h', ScC h' k m t (i + X.length + 2) → SF h' m (ws ++ [([108, 105, 116, 101, 114, 97, 108], X)]) → E2 k m h h' → Q .none h') : Wc d (.top 515) [.ref k, .str [c]] h Q E := by
  obtain ⟨g1, g2, g3⟩ := drop_cons e
  refine Wc.fn0 (om0 ‹_› rfl) rfl rfl rfl rfl ?_
  repeat walk_at "st"
  have ef : find1 c (List.drop ((i : Int) + 1).toNat t) ((i : Int) + 1).toNat = ((i + 1 + X.length : Nat) : Int) := by
    rw [show ((i : Int) + 1).toNat = i + 1 by exact om7, g2, find1_spec X r (i + 1) hX]
  show wpxs _ _ _ _ _ _ _ _ _ _
  rw [ef]
  refine Br.f (by simp; omega) ?_
  repeat walk_at "st"
  refine SetA.go hs rfl fun h1 k1 x1 => ?_
  repeat walk_at "st"
  refine OkO.is _ (cut_of (a := i + 1) (Nat.le_add_right _ _) hl) ?_
  rw [drop_cut g2]
  repeat walk_at "st"
  refine c_add (t := t) (k := k) (m := m) (by walk_at "dd") (i := i + X.length + 2) ?_ (hf.at hs x1) hw fun h2 k2 f2 x2 => ?_
  · rw [show ScC h1 k m t (i + X.length + 2) = ScC h1 k m t (i + 1 + X.length + 1) by rw [show i + X.length + 2 = i + 1 + X.length + 1 by omega]]
    exact k1
  exact q h2 k2 f2 ((E2.of x1).trans x2)
noncomputable def isOp (c : Nat) : Bool := decide (c = 43)
noncomputable def isSg (c : Nat) : Bool := decide (c = 40) || (decide (c = 41) || decide (c = 44))
theorem c_mark {c : Nat} {r : List Nat} (b : Bool) (hd : d + 3 < 60) (hl : t.length ≤ LIM) (e : t.drop i = c :: r) (hc : if b then c = 43 else c = 40 ∨ c = 41 ∨ c = 44) (hs : ScC h k m t i) (hf : SF h m ws) (hw : ws.length ≤ LIM) (q : ∀ h', ScC h' k m t (i + 1) → SF h' m (ws ++ [(if b then [111, 112, 101, 114, 97, 116, 111, 114] else [115, 105, 103, 110], [c])]) → E2 k m h h' → Q .none h') : Wc d (.top 550) [.ref k] h Q E := by
  obtain ⟨g1, g2, g3⟩ := drop_cons e
  refine Wc.fn0 (om0 ‹_› rfl) rfl rfl rfl rfl ?_
  repeat walk_at "st"
  refine c_sign0 (by walk_at "dd") hl hs ?_
  rw [g1]
  repeat walk_at "st"
  refine c_sign (a := 1) (by walk_at "dd") hl hs ?_
  have hlen : ([c] : List Nat).length + (t[i + 1]?).toList.length ≤ LIM := by
    cases t[i + 1]? <;> simp [LIM]
  refine OkO.is _ (add_of hlen) ?_
  repeat walk_at "st"
  have hb : ∀ (o : Option Nat) (b1 : Bool), cmpV h .notIn (.str ((some c).toList ++ o.toList)) (V.tup [V.str [47, 47], V.str [33, 61], V.str [60, 61], V.str [62, 61], V.str [46, 46], V.str [58, 58]]) = some b1 → b1 = true := by
    intro o b1 e
    have hc' : c ≠ 47 ∧ c ≠ 33 ∧ c ≠ 60 ∧ c ≠ 62 ∧ c ≠ 46 ∧ c ≠ 58 := by
      cases b <;> simp at hc
      · rcases hc with rfl | rfl | rfl <;> simp
      · subst hc; simp
    cases o with
    | none => injection e with e; rw [← e]; simp
    | some x => injection e with e; rw [← e]; simp [hc']
  refine Br.t (hb (t[i + 1]?) _ rfl) ?_
  repeat walk_at "st"
  refine c_sign0 (by walk_at "dd") hl hs ?_
  rw [g1]
  repeat walk_at "st"
  cases b with
  | true =>
    simp at hc
    subst hc
    refine Br.t rfl ?_
    repeat walk_at "st"
    refine c_add (by walk_at "dd") hs hf hw fun h2 k2 f2 x2 => ?_
    repeat walk_at "st"
    refine SetA.go k2 rfl fun h3 k3 x3 => ?_
    exact q h3 k3 (f2.at k2 x3) (x2.trans (E2.of x3))
  | false =>
    refine Br.f (by rcases hc with rfl | rfl | rfl <;> rfl) ?_
    repeat walk_at "st"
    refine Br.t (by rcases hc with rfl | rfl | rfl <;> rfl) ?_
    repeat walk_at "st"
    refine c_add (by walk_at "dd") hs hf hw fun h2 k2 f2 x2 => ?_
    repeat walk_at "st"
    refine SetA.go k2 rfl fun h3 k3 x3 => ?_
    exact q h3 k3 (f2.at k2 x3) (x2.trans (E2.of x3))
end
end Mine.Internal
end

section
open PySem
set_option autoImplicit false
namespace Mine.Internal
theorem eq_lists {h : Hp} {a b : Nat} {x y : List V} {o : Bool} (ha : h[a]? = some (.list x)) (hb : h[b]? = some (.list y)) (e : (if x.length = y.length then eqps (eqp 4) x y else some false) = some o) : cmpV h .eq (.ref a) (.ref b) = some o := by
  show eqV h (.ref a) (.ref b) = some o
  unfold eqV
  dsimp only
  rw [ha, hb]
  exact e
theorem ne_lists {h : Hp} {a b : Nat} {x y : List V} {o : Bool} (ha : h[a]? = some (.list x)) (hb : h[b]? = some (.list y)) (e : (if x.length = y.length then eqps (eqp 4) x y else some false) = some o) : cmpV h .ne (.ref a) (.ref b) = some (!o) := by
  show (eqV h (.ref a) (.ref b)).map _ = some _
  rw [show eqV h (.ref a) (.ref b) = some o from eq_lists ha hb e]
  rfl
section
variable {d k m i : Nat} {t : List Nat} {h : Hp} {Q : QV} {E : QE} {ws : List (List Nat × List Nat)}
theorem name_loop {N : QL} {B C : QL} {Rt : QV} (hd : d + 3 < 60) (hl : t.length ≤ LIM) : ∀ (ns : List Nat) (i : Nat) (r : List Nat) (l : List (Nat × V)) (h : Hp), lk 4 l = some (.ref k) → t.drop i = ns ++ 40 :: r → (∀ c ∈ ns, c < 128 ∧ nch c = true ∧ c ≠ 58) → ScC h k m t i → (∀ h', ScC h' k m t (i + ns.length) → Ex (· = k) h h' → N l h') → Wl (nth fi_PathScanner_plain_name.body 2) l [] d h N B C Rt E := by
  intro ns
  induction ns with
  | nil =>
    intro i r l h hk e ha hs q
    refine Wl.step ?_
    refine OkO.is _ hk ?_
    repeat walk_at "st"
    refine c_sign0 (by walk_at "dd") hl hs ?_
    repeat walk_at "st"
    rw [(drop_cons e).1]
    refine Br.t rfl ?_
    refine OkO.is _ hk ?_
    repeat walk_at "st"
    refine c_sign0 (by walk_at "dd") hl hs ?_
    repeat walk_at "st"
    rw [(drop_cons e).1]
    refine Br.t rfl ?_
    repeat walk_at "st"
    refine OkO.is _ hk ?_
    repeat walk_at "st"
    refine c_sign0 (by walk_at "dd") hl hs ?_
    repeat walk_at "st"
    rw [(drop_cons e).1]
    refine c_is_name_char (by walk_at "dd") (by omega) ?_
    refine Br.f rfl ?_
    exact q _ hs Ex.refl
  | cons c ns ih =>
    intro i r l h hk e ha hs q
    have e' : t.drop i = c :: (ns ++ 40 :: r) := e
    obtain ⟨g1, g2, g3⟩ := drop_cons e'
    obtain ⟨a1, a2, a3⟩ := ha c (.head _)
    refine Wl.step ?_
    refine OkO.is _ hk ?_
    repeat walk_at "st"
    refine c_sign0 (by walk_at "dd") hl hs ?_
    repeat walk_at "st"
    rw [g1]
    refine Br.t rfl ?_
    refine OkO.is _ hk ?_
    repeat walk_at "st"
    refine c_sign0 (by walk_at "dd") hl hs ?_
    repeat walk_at "st"
    rw [g1]
    refine Br.t (by simp [a3]) ?_
    repeat walk_at "st"
    refine OkO.is _ hk ?_
    repeat walk_at "st"
    refine c_sign0 (by walk_at "dd") hl hs ?_
    repeat walk_at "st"
    rw [g1]
    refine c_is_name_char (by walk_at "dd") a1 ?_
    rw [a2]
    refine Br.t rfl ?_
    refine OkO.is _ hk ?_
    repeat walk_at "st"
    refine OkO.is _ hk ?_
    refine SetA.go hs rfl fun h1 k1 x1 => ?_
    refine ih (i + 1) r l h1 hk g2 (fun c hc => ha c (.tail _ hc)) k1 fun h2 k2 x2 => ?_
    exact q h2 (by rw [show i + (c :: ns).length = i + 1 + ns.length by simp; exact om7]; exact k2) (x1.trans x2)
noncomputable def CC : List Nat := [99, 111, 110, 99, 97, 116]
theorem cc_all : ∀ c ∈ CC, c < 128 ∧ nch c = true ∧ c ≠ 58 := by decide +kernel
theorem c_plain_name {r : List Nat} (hd : d + 4 < 60) (hl : t.length ≤ LIM) (e : t.drop i = CC ++ 40 :: r) (hs : ScC h k m t i) (q : ∀ h', ScC h' k m t (i + 6) → Ex (· = k) h h' → Q (.str CC) h') : Wc d (.top 529) [.ref k] h Q E := by
  have e' : t.drop i = 99 :: ([111, 110, 99, 97, 116] ++ 40 :: r) := e
  obtain ⟨g1, g2, g3⟩ := drop_cons e'
  refine Wc.fn0 (om0 ‹_› rfl) rfl rfl rfl rfl ?_
  repeat walk_at "st"
  refine c_sign0 (by walk_at "dd") hl hs ?_
  rw [g1]
  repeat walk_at "st"
  refine Br.f rfl ?_
  repeat walk_at "st"
  refine c_sign0 (by walk_at "dd") hl hs ?_
  rw [g1]
  repeat walk_at "st"
  refine Br.f rfl ?_
  repeat walk_at "st"
  refine c_sign0 (by walk_at "dd") hl hs ?_
  rw [g1]
  repeat walk_at "st"
  refine c_is_name_start (by walk_at "dd") (by omega) ?_
  refine Br.f rfl ?_
  refine name_loop ‹_› hl CC i r _ h rfl e cc_all hs fun h1 k1 x1 => ?_
  repeat walk_at "st"
  refine OkO.is _ (cut_of (by simp [CC]) hl) ?_
  rw [drop_cut e]
  exact q h1 k1 x1
theorem c_qualified {r : List Nat} (hd : d + 5 < 60) (hl : t.length ≤ LIM) (e : t.drop i = CC ++ 40 :: r) (hs : ScC h k m t i) (q : ∀ h', ScC h' k m t (i + 6) → Ex (· = k) h h' → Q (.str CC) h') : Wc d (.top 536) [.ref k] h Q E := by
  refine Wc.fn0 (om0 ‹_› rfl) rfl rfl rfl rfl ?_
  repeat walk_at "st"
  refine c_plain_name (by walk_at "dd") hl e hs fun h1 k1 x1 => ?_
  repeat walk_at "st"
  refine Br.f rfl ?_
  repeat walk_at "st"
  refine c_sign0 (by walk_at "dd") hl k1 ?_
  rw [show t[i + 6]? = some 40 from (drop_cons (drop_app (a := CC) e)).1]
  repeat walk_at "st"
  refine Br.t rfl ?_
  refine Br.t rfl ?_
  repeat walk_at "st"
  exact q h1 k1 x1
theorem c_behind0 (hd : d < 60) (hs : ScC h k m t i) (hf : h[m]? = some (.list [])) (q : ∀ h', Old h h' → Q (.bool false) h') : Wc d (.top 487) [.ref k] h Q E := by
  refine Wc.fn0 hd rfl rfl rfl rfl ?_
  repeat walk_at "st"
  refine New.go fun n h1 f1 k1 o1 => ?_
  refine OkO.is _ (eq_lists (o1 _ _ hf) k1 rfl) ?_
  refine Br.t rfl ?_
  exact q h1 o1
theorem c_name {r : List Nat} (hd : d + 6 < 60) (hl : t.length ≤ LIM) (e : t.drop i = CC ++ 40 :: r) (hs : ScC h k m t i) (hf : h[m]? = some (.list [])) (q : ∀ h', ScC h' k m t (i + 6) → SF h' m [([102, 117, 110, 99, 116, 105, 111, 110], CC)] → E2 k m h h' → Q .none h') : Wc d (.top 543) [.ref k] h Q E := by
  have g1 := (drop_cons (drop_app (a := CC) e)).1
  refine Wc.fn0 (om0 ‹_› rfl) rfl rfl rfl rfl ?_
  repeat walk_at "st"
  refine c_behind0 (by walk_at "dd") hs hf fun h1 o1 => ?_
  refine Br.f rfl ?_
  repeat walk_at "st"
  have s1 := o1 _ _ hs
  refine OkO.is _ (meth_of s1 rfl rfl) ?_
  refine c_qualified (by walk_at "dd") hl e s1 fun h2 k2 x2 => ?_
  repeat walk_at "st"
  refine c_skip (s := 0) (by walk_at "dd") hl (drop_app (a := CC) e) (fun c r' e => by cases e; rfl) k2 fun h3 k3 x3 => ?_
  repeat walk_at "st"
  refine c_sign0 (by walk_at "dd") hl k3 ?_
  rw [show i + CC.length + 0 = i + CC.length from rfl, g1]
  repeat walk_at "st"
  refine Br.t rfl ?_
  repeat walk_at "st"
  refine Br.t rfl ?_
  repeat walk_at "st"
  refine Br.f rfl ?_
  repeat walk_at "st"
  have f3 : SF h3 m [] := ⟨[], x3 _ _ (x2 _ _ (o1 _ _ hf) (ne_of (o1 _ _ hf) s1 (by intro q; cases q))) (ne_of (x2 _ _ (o1 _ _ hf) (ne_of (o1 _ _ hf) s1 (by intro q; cases q))) k2 (by intro q; cases q)), trivial⟩
  refine c_add (by walk_at "dd") k3 f3 (by simp [LIM]) fun h4 k4 f4 x4 => ?_
  exact q h4 k4 f4 (fun j o e n => x4 j o ((E2.of x3) j o ((E2.of x2) j o (o1 j o e) n) n) n)
inductive St : List Nat → List Nat × List Nat → List Nat → Prop
  | num (ds r : List Nat) (hne : ds ≠ []) (ha : ds.all dg = true) (hr : ∀ c r', r = c :: r' → dg c = false ∧ c ≠ 46) : St (ds ++ r) ([110, 117, 109, 98, 101, 114], ds) r
  | lit (c : Nat) (X r : List Nat) (hc : c = 39 ∨ c = 34) (hX : X.contains c = false) : St (c :: (X ++ c :: r)) ([108, 105, 116, 101, 114, 97, 108], X) r
  | mark (b : Bool) (c : Nat) (r : List Nat) (hc : if b then c = 43 else c = 40 ∨ c = 41 ∨ c = 44) : St (c :: r) (if b then [111, 112, 101, 114, 97, 116, 111, 114] else [115, 105, 103, 110], [c]) r
theorem c_step {s r : List Nat} {w : List Nat × List Nat} (hd : d + 4 < 60) (hl : t.length ≤ LIM) (e : t.drop i = s) (hst : St s w r) (hs : ScC h k m t i) (hf : SF h m ws) (hw : ws.length ≤ LIM) (q : ∀ h' i', i < i' → i' ≤ t.length → t.drop i' = r → ScC h' k m t i' → SF h' m (ws ++ [w]) → E2 k m h h' → Q .none h') : Wc d (.top 494) [.ref k] h Q E := by
  refine Wc.fn0 (om0 ‹_› rfl) rfl rfl rfl rfl ?_
  repeat walk_at "st"
  refine c_sign0 (by walk_at "dd") hl hs ?_
  cases hst with
  | num ds r hne ha hr =>
    cases ds with
    | nil => exact absurd rfl hne
    | cons c ds =>
      have e' : t.drop i = c :: (ds ++ r) := e
      rw [(drop_cons e').1]
      repeat walk_at "st"
      refine Br.t (Bool.and_eq_true_iff.mp (show (dg c && ds.all dg) = true from ha)).1 ?_
      refine Br.t rfl ?_
      repeat walk_at "st"
      refine c_number (by walk_at "dd") hl e ha hr hs hf hw fun h1 k1 f1 x1 => ?_
      exact q h1 _ (by simp) (by have := congrArg List.length e; have := (drop_cons e').2.2; simp at *; omega) (drop_app e) k1 f1 x1
  | lit c X r hc hX =>
    have g1 := (drop_cons e).1
    rw [g1]
    have hr : t.drop (i + X.length + 2) = r := by
      have := drop_app (a := c :: (X ++ [c])) (b := r) (i := i) (t := t) (by rw [e]; simp)
      rw [show i + X.length + 2 = i + (c :: (X ++ [c])).length by simp; exact om7]
      exact this
    repeat walk_at "st"
    refine Br.f (by rcases hc with rfl | rfl <;> rfl) ?_
    repeat walk_at "st"
    refine Br.f (by rcases hc with rfl | rfl <;> rfl) ?_
    refine Br.f rfl ?_
    repeat walk_at "st"
    refine Br.t (by rcases hc with rfl | rfl <;> rfl) ?_
    repeat walk_at "st"
    refine c_literal (by walk_at "dd") hl e hX hs hf hw fun h1 k1 f1 x1 => ?_
    exact q h1 _ (by omega) (by have := congrArg List.length e; have := (drop_cons e).2.2; simp at *; omega) hr k1 f1 x1
  | mark b c r hc =>
    obtain ⟨g1, g2, g3⟩ := drop_cons e
    rw [g1]
    have hc' : c = 43 ∨ c = 40 ∨ c = 41 ∨ c = 44 := by
      cases b <;> simp at hc <;> omega
    repeat walk_at "st"
    refine Br.f (by rcases hc' with rfl | rfl | rfl | rfl <;> rfl) ?_
    repeat walk_at "st"
    refine Br.f (by rcases hc' with rfl | rfl | rfl | rfl <;> rfl) ?_
    refine Br.f rfl ?_
    repeat walk_at "st"
    refine Br.f (by rcases hc' with rfl | rfl | rfl | rfl <;> rfl) ?_
    repeat walk_at "st"
    refine Br.f (by rcases hc' with rfl | rfl | rfl | rfl <;> rfl) ?_
    repeat walk_at "st"
    refine Br.f (by rcases hc' with rfl | rfl | rfl | rfl <;> rfl) ?_
    repeat walk_at "st"
    refine c_is_name_start (by walk_at "dd") (by omega) ?_
    refine Br.f (by rcases hc' with rfl | rfl | rfl | rfl <;> rfl) ?_
    refine Br.f rfl ?_
    repeat walk_at "st"
    refine c_mark b (by walk_at "dd") hl e hc hs hf hw fun h1 k1 f1 x1 => ?_
    exact q h1 _ (by omega) (Nat.succ_le_of_lt ‹_›) g2 k1 f1 x1
theorem c_step_cc {r : List Nat} (hd : d + 7 < 60) (hl : t.length ≤ LIM) (e : t.drop i = CC ++ 40 :: r) (hs : ScC h k m t i) (hf : h[m]? = some (.list [])) (q : ∀ h', ScC h' k m t (i + 6) → SF h' m [([102, 117, 110, 99, 116, 105, 111, 110], CC)] → E2 k m h h' → Q .none h') : Wc d (.top 494) [.ref k] h Q E := by
  refine Wc.fn0 (om0 ‹_› rfl) rfl rfl rfl rfl ?_
  repeat walk_at "st"
  refine c_sign0 (by walk_at "dd") hl hs ?_
  have e' : t.drop i = 99 :: ([111, 110, 99, 97, 116] ++ 40 :: r) := e
  rw [(drop_cons e').1]
  repeat walk_at "st"
  refine Br.f rfl ?_
  repeat walk_at "st"
  refine Br.f rfl ?_
  refine Br.f rfl ?_
  repeat walk_at "st"
  refine Br.f rfl ?_
  repeat walk_at "st"
  refine Br.f rfl ?_
  repeat walk_at "st"
  refine Br.f rfl ?_
  repeat walk_at "st"
  refine c_is_name_start (by walk_at "dd") (by omega) ?_
  refine Br.t rfl ?_
  repeat walk_at "st"
  refine Br.t rfl ?_
  repeat walk_at "st"
  refine c_name (by walk_at "dd") hl e hs hf fun h1 k1 f1 x1 => ?_
  exact q h1 k1 f1 x1
end
end Mine.Internal
end

section
open PySem
set_option autoImplicit false
namespace Mine.Internal
inductive Scan : List Nat → List (List Nat × List Nat) → Prop
  | nil : Scan [] []
  | cons (s : Nat) (a r : List Nat) (w : List Nat × List Nat) (ws : List (List Nat × List Nat)) (h : St a w (List.replicate s 32 ++ r)) (t : Scan r ws) : Scan a (w :: ws)
theorem dg_sp {c : Nat} (h : dg c = true) : sp c = false := by
  simp [dg, List.contains_eq_mem] at h
  rcases h with rfl | rfl | rfl | rfl | rfl | rfl | rfl | rfl | rfl | rfl <;> rfl
theorem St.head {a r : List Nat} {w : List Nat × List Nat} (h : St a w r) : ∃ c a', a = c :: a' ∧ sp c = false := by
  cases h with
  | num ds _ hne ha hr =>
    cases ds with
    | nil => exact absurd rfl hne
    | cons c ds => exact ⟨c, _, rfl, dg_sp (Bool.and_eq_true_iff.mp (show (dg c && ds.all dg) = true from ha)).1⟩
  | lit c X _ hc hX => exact ⟨c, _, rfl, by rcases hc with rfl | rfl <;> rfl⟩
  | mark b c _ hc => exact ⟨c, _, rfl, by cases b <;> simp at hc <;> (try rcases hc with rfl | rfl | rfl) <;> (try subst hc) <;> rfl⟩
theorem Scan.head {a : List Nat} {ws : List (List Nat × List Nat)} (h : Scan a ws) : ∀ c a', a = c :: a' → sp c = false := by
  intro c a' e
  cases h with
  | nil => cases e
  | cons s _ r w ws h t =>
    obtain ⟨c', a'', e', q⟩ := h.head
    rw [e'] at e
    cases e
    exact q
section
variable {d k m i : Nat} {t : List Nat} {h : Hp} {Q : QV} {E : QE} {ws : List (List Nat × List Nat)}
theorem E2.trans {a b c : Hp} (x : E2 k m a b) (y : E2 k m b c) : E2 k m a c := Ex.trans x y
theorem run_loop {N : QL} {B C : QL} {Rt : QV} (hd : d + 4 < 60) (hl : t.length ≤ LIM) {a : List Nat} {ws : List (List Nat × List Nat)} (sc : Scan a ws) : ∀ (i : Nat) (ws0 : List (List Nat × List Nat)) (h : Hp), t.drop i = a → i ≤ t.length → ws0.length ≤ i → ScC h k m t i → SF h m ws0 → (∀ l h' i', ws0.length + ws.length ≤ LIM → lk 4 l = some (.ref k) → ScC h' k m t i' → SF h' m (ws0 ++ ws) → E2 k m h h' → N l h') → Wl (nth fi_PathScanner_run.body 1) [(4, .ref k)] [] d h N B C Rt E := by
  induction sc with
  | nil =>
    intro i ws0 h e hi hw hs hf q
    refine Wl.step ?_
    repeat walk_at "st"
    refine Br.f (by have := (drop_nil e).2; simp; exact ‹_›) ?_
    refine q _ _ i (by simp; exact om25 ‹_› ‹_› ‹_›) rfl hs (by rw [List.append_nil]; exact hf) Ex.refl
  | cons s a r w ws st sc ih =>
    intro i ws0 h e hi hw hs hf q
    obtain ⟨c, a', ea, zz⟩ := st.head
    have hi' := (drop_cons (e.trans ea)).2.2
    refine Wl.step ?_
    repeat walk_at "st"
    refine Br.t (by simp; exact ‹_›) ?_
    repeat walk_at "st"
    refine c_step (by walk_at "dd") hl e st hs hf (by omega) fun h1 i1 lt le1 e1 s1 f1 x1 => ?_
    repeat walk_at "st"
    refine c_skip (by walk_at "dd") hl e1 sc.head s1 fun h2 s2 x2 => ?_
    have e2 := drop_app e1
    rw [List.length_replicate] at e2
    have hi2 : i1 + s ≤ t.length := by
      have h1 := congrArg List.length e1
      have h2 := congrArg List.length e2
      rw [List.length_drop, List.length_append, List.length_replicate] at h1
      omega
    refine ih (i1 + s) (ws0 ++ [w]) h2 e2 hi2 (by simp; omega) s2 (f1.at s1 x2) fun l h3 i3 le lk s3 f3 x3 => ?_
    refine q l h3 i3 (by simp at le ⊢; omega) lk s3 (by simpa using f3) (x1.trans ((E2.of x2).trans x3))
theorem c_run {s : Nat} {r : List Nat} {ws : List (List Nat × List Nat)} (hd : d + 5 < 60) (hl : t.length ≤ LIM) (e : t = List.replicate s 32 ++ r) (sc : Scan r ws) (hs : ScC h k m t 0) (hf : h[m]? = some (.list [])) (q : ∀ h', SF h' m (ws ++ [([101, 110, 100], [])]) → E2 k m h h' → Q (.ref m) h') : Wc d (.top 473) [.ref k] h Q E := by
  refine Wc.fn0 (om0 ‹_› rfl) rfl rfl rfl rfl ?_
  repeat walk_at "st"
  refine c_skip (i := 0) (r := r) (s := s) (by walk_at "dd") hl e sc.head hs fun h1 s1 x1 => ?_
  have hf0 : SF h m [] := ⟨[], hf, trivial⟩
  have e1 : t.drop (0 + s) = r := by
    have := drop_app (t := t) (i := 0) (a := List.replicate s 32) (b := r) e
    rwa [List.length_replicate] at this
  refine run_loop (by walk_at "dd") hl sc (0 + s) [] h1 e1 (by rw [e]; simp) (Nat.zero_le _) s1 (hf0.at hs x1) fun l h2 i2 le lk s2 f2 x2 => ?_
  refine OkO.is _ lk ?_
  repeat walk_at "st"
  refine OkO.is _ lk ?_
  repeat walk_at "st"
  refine c_add (by walk_at "dd") s2 f2 (by simp at le ⊢; exact ‹_›) fun h3 s3 f3 x3 => ?_
  refine OkO.is _ lk ?_
  repeat walk_at "st"
  exact q h3 f3 ((E2.of x1).trans (x2.trans x3))
theorem c_run_cc {r : List Nat} {ws : List (List Nat × List Nat)} (hd : d + 8 < 60) (hl : t.length ≤ LIM) (e : t = CC ++ 40 :: r) (sc : Scan (40 :: r) ws) (hs : ScC h k m t 0) (hf : h[m]? = some (.list [])) (q : ∀ h', SF h' m (([102, 117, 110, 99, 116, 105, 111, 110], CC) :: ws ++ [([101, 110, 100], [])]) → E2 k m h h' → Q (.ref m) h') : Wc d (.top 473) [.ref k] h Q E := by
  have hlt : t.length = 7 + r.length := by rw [e]; simp [CC]; omega
  refine Wc.fn0 (om0 ‹_› rfl) rfl rfl rfl rfl ?_
  repeat walk_at "st"
  refine c_skip (i := 0) (r := t) (s := 0) (by walk_at "dd") hl rfl (fun c r' e' => by rw [e] at e'; cases e'; rfl) hs fun h1 s1 x1 => ?_
  have f1 := x1 _ _ hf (ne_of hf hs (by intro q; cases q))
  refine Wl.step ?_
  repeat walk_at "st"
  refine Br.t (by simp; omega) ?_
  repeat walk_at "st"
  refine c_step_cc (i := 0) (by walk_at "dd") hl e s1 f1 fun h2 s2 f2 x2 => ?_
  have e2 : t.drop (0 + 6) = 40 :: r := drop_app (a := CC) (i := 0) e
  repeat walk_at "st"
  refine c_skip (r := 40 :: r) (s := 0) (by walk_at "dd") hl e2 (fun c r' e' => by cases e'; rfl) s2 fun h3 s3 x3 => ?_
  refine run_loop (by walk_at "dd") hl sc (0 + 6) _ h3 e2 (by omega) (Nat.le_of_ble_eq_true rfl) s3 (f2.at s2 x3) fun l h4 i4 le lk s4 f4 x4 => ?_
  refine OkO.is _ lk ?_
  repeat walk_at "st"
  refine OkO.is _ lk ?_
  repeat walk_at "st"
  refine c_add (by walk_at "dd") s4 f4 (by simp at le ⊢; omega) fun h5 s5 f5 x5 => ?_
  refine OkO.is _ lk ?_
  repeat walk_at "st"
  exact q h5 (by simpa using f5) ((E2.of x1).trans (x2.trans ((E2.of x3).trans (x4.trans x5))))
inductive Words : List Nat → List (List Nat × List Nat) → Prop
  | scan (s : Nat) (r : List Nat) (ws : List (List Nat × List Nat)) (sc : Scan r ws) : Words (List.replicate s 32 ++ r) (ws ++ [([101, 110, 100], [])])
  | cc (r : List Nat) (ws : List (List Nat × List Nat)) (sc : Scan (40 :: r) ws) : Words (CC ++ 40 :: r) (([102, 117, 110, 99, 116, 105, 111, 110], CC) :: ws ++ [([101, 110, 100], [])])
theorem c_scanner_init {k : Nat} (hd : d < 60) (hk : h[k]? = some (.inst 553 [])) (q : ∀ h' m, h[m]? = none → ScC h' k m t 0 → h'[m]? = some (.list []) → Ex (· = k) h h' → Q .none h') : Wc d (.top 451) [.ref k, .str t] h Q E := by
  refine Wc.fn0 hd rfl rfl rfl rfl ?_
  repeat walk_at "st"
  refine SetA.go hk rfl fun h1 k1 x1 => ?_
  repeat walk_at "st"
  refine SetA.go k1 rfl fun h2 k2 x2 => ?_
  repeat walk_at "st"
  refine New.go fun n h3 f3 k3 o3 => ?_
  have hn : h[n]? = none := by
    cases e : h[n]? with
    | none => rfl
    | some o =>
      by_cases q : n = k
      · rw [q, k2] at f3; cases f3
      · rw [x2 _ _ (x1 _ _ e q) q] at f3; cases f3
  repeat walk_at "st"
  refine SetA.go (o3 _ _ k2) rfl fun h4 k4 x4 => ?_
  refine q h4 n hn k4 (x4 _ _ k3 (ne_of k3 (o3 _ _ k2) (by intro q; cases q))) ?_
  exact fun j o e n => x4 _ _ (o3 _ _ (x2 _ _ (x1 _ _ e n) n)) n
theorem c_path_words (hd : d + 9 < 60) (hl : t.length ≤ LIM) (hw : Words t ws) (q : ∀ h' m, h[m]? = none → SF h' m ws → Old h h' → Q (.ref m) h') : Wc d (.top 564) [.str t] h Q E := by
  refine Wc.fn0 (om0 ‹_› rfl) rfl rfl rfl rfl ?_
  repeat walk_at "st"
  refine Wc.cls' (by walk_at "dd") rfl rfl fun n h1 f1 k1 o1 => ?_
  refine c_scanner_init (by walk_at "dd") k1 fun h2 m f2 s2 k2 x2 => ?_
  repeat walk_at "st"
  have fm : h[m]? = none := by
    cases e : h[m]? with
    | none => rfl
    | some o => rw [o1 _ _ e] at f2; cases f2
  have key : ∀ h', SF h' m ws → E2 n m h2 h' → Q (.ref m) h' := fun h' f' x' =>
    q h' m fm f' fun j o e => x' _ _ (x2 _ _ (o1 _ _ e) (ne_new e f1)) (fun q => by
      rcases q with q | q
      · exact ne_new e f1 q
      · exact ne_new e fm q)
  cases hw with
  | scan s r ws sc => exact c_run (by walk_at "dd") hl rfl sc s2 k2 key
  | cc r ws sc => exact c_run_cc (by walk_at "dd") hl rfl sc s2 k2 key
end
end Mine.Internal
end

section
open PySem
set_option autoImplicit false
namespace Mine.Internal
noncomputable abbrev tEND : List Nat := [101, 110, 100]
noncomputable abbrev tSG : List Nat := [115, 105, 103, 110]
noncomputable abbrev tOP : List Nat := [111, 112, 101, 114, 97, 116, 111, 114]
noncomputable abbrev tNUM : List Nat := [110, 117, 109, 98, 101, 114]
noncomputable abbrev tLIT : List Nat := [108, 105, 116, 101, 114, 97, 108]
noncomputable abbrev tFN : List Nat := [102, 117, 110, 99, 116, 105, 111, 110]
noncomputable def nx (w : List Nat × List Nat) : Prop := w = (tEND, []) ∨ w = (tSG, [41]) ∨ w = (tSG, [44]) ∨ w = (tOP, [43])
noncomputable def px (w : List Nat × List Nat) : Prop := w.1 = tLIT ∨ w.1 = tNUM ∨ w.1 = tFN
noncomputable abbrev RC (h : Hp) (k m i : Nat) (dep : Int) : Prop := h[k]? = some (.inst 745 [(116, .ref m), (75, .int i), (117, .int dep)])
theorem SF.rd {h h' : Hp} {k m i : Nat} {dep : Int} {ws : List (List Nat × List Nat)} (f : SF h m ws) (s : RC h k m i dep) (x : Ex (· = k) h h') : SF h' m ws := by
  obtain ⟨rs, e, w⟩ := f
  exact ⟨rs, x _ _ e (ne_of e s (by intro q; cases q)), w.mono fun j p a b e => x _ _ e (ne_of e s (by intro q; cases q))⟩
theorem SF.old {h h' : Hp} {m : Nat} {ws : List (List Nat × List Nat)} (f : SF h m ws) (x : Old h h') : SF h' m ws := by
  obtain ⟨rs, e, w⟩ := f
  exact ⟨rs, x _ _ e, w.mono fun j p a b e => x _ _ e⟩
theorem idx_list {h : Hp} {m i : Nat} {rs : List V} {r : V} (hm : h[m]? = some (.list rs)) (hr : rs[i]? = some r) (hl : rs.length ≤ LIM) : idxV h (.ref m) (.int i) = some r := by
  obtain ⟨hi, zz⟩ := List.getElem?_eq_some_iff.mp hr
  unfold idxV
  dsimp only
  rw [hm]
  dsimp only
  rw [if_pos (by unfold LIM at *; omega)]
  unfold seqAt
  rw [if_pos (by omega)]
  exact hr
theorem tup_of {h : Hp} {m : Nat} {rs : List V} (hm : h[m]? = some (.list rs)) (hl : rs.length ≤ LIM) : biV h .tuple [.ref m] = some (.tup rs) := by
  show (match h[m]? with | some (.list vs) => biL .tuple vs | _ => none) = _
  rw [hm]
  exact if_pos hl
section
variable {d k m i j : Nat} {dep : Int} {h : Hp} {Q : QV} {E : QE} {ws : List (List Nat × List Nat)} {w : List Nat × List Nat}
theorem c_here (hd : d < 60) (hs : RC h k m i dep) (hf : SF h m ws) (hl : ws.length ≤ LIM) (hw : ws[i]? = some w) (q : ∀ j p, h[j]? = some (.inst 433 [(69, .str w.1), (70, .str w.2), (71, p)]) → Q (.ref j) h) : Wc d (.top 609) [.ref k] h Q E := by
  obtain ⟨rs, hr, hws⟩ := hf
  obtain ⟨r, er, j, p, rfl, hj⟩ := hws.get hw
  refine Wc.fn0 hd rfl rfl rfl rfl ?_
  repeat walk_at "st"
  exact OkO.is _ (idx_list hr er (by rw [hws.len]; exact hl)) (q j p hj)
theorem c_go (hd : d < 60) (hs : RC h k m i dep) (hf : SF h m ws) (hl : ws.length ≤ LIM) (hw : ws[i]? = some w) (hne : w.1 ≠ tEND) (q : ∀ j p h', h'[j]? = some (.inst 433 [(69, .str w.1), (70, .str w.2), (71, p)]) → RC h' k m (i + 1) dep → SF h' m ws → Ex (· = k) h h' → Q (.ref j) h') : Wc d (.top 616) [.ref k] h Q E := by
  obtain ⟨rs, hr, hws⟩ := hf
  obtain ⟨r, er, j, p, rfl, hj⟩ := hws.get hw
  refine Wc.fn0 hd rfl rfl rfl rfl ?_
  repeat walk_at "st"
  refine OkO.is _ (idx_list hr er (by rw [hws.len]; exact hl)) ?_
  repeat walk_at "st"
  refine Br.t (by simpa using hne) ?_
  repeat walk_at "st"
  refine SetA.go hs rfl fun h1 k1 x1 => ?_
  repeat walk_at "st"
  exact q j p h1 (x1 _ _ hj (ne_of hj hs (by intro q; cases q))) k1 (SF.rd ⟨rs, hr, hws⟩ hs x1) x1
theorem c_need {c : Nat} (hd : d + 1 < 60) (hs : RC h k m i dep) (hf : SF h m ws) (hl : ws.length ≤ LIM) (hw : ws[i]? = some (tSG, [c])) (q : ∀ h', RC h' k m (i + 1) dep → SF h' m ws → Ex (· = k) h h' → Q .none h') : Wc d (.top 630) [.ref k, .str [c]] h Q E := by
  refine Wc.fn0 (om0 ‹_› rfl) rfl rfl rfl rfl ?_
  repeat walk_at "st"
  refine c_here (by walk_at "dd") hs hf hl hw fun j p hj => ?_
  repeat walk_at "st"
  refine c_is_sign (by walk_at "dd") hj ?_
  refine Br.f (by simp) ?_
  repeat walk_at "st"
  refine c_go (by walk_at "dd") hs hf hl hw (show tSG ≠ tEND by decide) fun j p h1 j1 r1 f1 x1 => ?_
  exact q h1 r1 f1 x1
noncomputable def lev (w : List Nat × List Nat) : Int := if w = (tOP, [43]) then 5 else 0
theorem c_level (hd : d + 1 < 60) (hs : RC h k m i dep) (hf : SF h m ws) (hl : ws.length ≤ LIM) (hw : ws[i]? = some w) (hn : nx w) (q : Q (.int (lev w)) h) : Wc d (.top 658) [.ref k] h Q E := by
  refine Wc.fn0 (om0 ‹_› rfl) rfl rfl rfl rfl ?_
  repeat walk_at "st"
  refine c_here (by walk_at "dd") hs hf hl hw fun j p hj => ?_
  repeat walk_at "st"
  rcases hn with rfl | rfl | rfl | rfl
  · exact Br.f rfl q
  · exact Br.f rfl q
  · exact Br.f rfl q
  · refine Br.t rfl ?_
    repeat walk_at "st"
    exact q
noncomputable def NoList (o : O) : Prop := ∀ vs, o ≠ .list vs
noncomputable abbrev Prm (F : Nat) (as : List V) (d k m i j : Nat) (dep : Int) (ws : List (List Nat × List Nat)) (G : O → Prop) : Prop := ∀ (h : Hp) (Q : QV) (E : QE), RC h k m i dep → SF h m ws → (∀ n o h', h[n]? = none → h'[n]? = some o → G o → RC h' k m j dep → SF h' m ws → Ex (· = k) h h' → Q (.ref n) h') → Wc d (.top F) (.ref k :: as) h Q E
theorem c_predicates (hd : d + 1 < 60) (hs : RC h k m i dep) (hf : SF h m ws) (hl : ws.length ≤ LIM) (hw : ws[i]? = some w) (hn : nx w) (q : ∀ h', Old h h' → Q (.tup []) h') : Wc d (.top 742) [.ref k] h Q E := by
  refine Wc.fn0 (om0 ‹_› rfl) rfl rfl rfl rfl ?_
  repeat walk_at "st"
  refine New.go fun n h1 f1 k1 o1 => ?_
  repeat walk_at "st"
  have s1 : RC h1 k m i dep := o1 _ _ hs
  refine Wl.step ?_
  refine OkO.is _ (meth_of s1 rfl rfl) ?_
  refine c_here (by walk_at "dd") s1 (hf.old o1) hl hw fun j p hj => ?_
  refine OkO.is _ (meth_of hj rfl rfl) ?_
  refine c_is_sign (by walk_at "dd") hj ?_
  refine Br.f (by rcases hn with rfl | rfl | rfl | rfl <;> rfl) ?_
  repeat walk_at "st"
  exact OkO.is _ (tup_of k1 (Nat.zero_le _)) (q h1 o1)
theorem c_from_primary {G : O → Prop} (hd : d + 2 < 60) (hl : ws.length ≤ LIM) (hp : Prm 693 [] (d + 1) k m i j dep ws G) (hw : ws[j]? = some w) (hn : nx w) : Prm 686 [] d k m i j dep ws G := by
  intro h Q E hs hf q
  refine Wc.fn0 (om0 ‹_› rfl) rfl rfl rfl rfl ?_
  repeat walk_at "st"
  refine hp h _ _ hs hf fun n o h1 fn kn g s1 f1 x1 => ?_
  repeat walk_at "st"
  refine c_predicates (by walk_at "dd") s1 f1 hl hw hn fun h2 o2 => ?_
  have s2 : RC h2 k m j dep := o2 _ _ s1
  have f2 := f1.old o2
  repeat walk_at "st"
  refine Br.f rfl ?_
  repeat walk_at "st"
  repeat walk_at "st"
  refine c_here (by walk_at "dd") s2 f2 hl hw fun j p hj => ?_
  refine OkO.is _ (meth_of hj rfl rfl) ?_
  refine c_is_operator (by walk_at "dd") hj ?_
  refine Br.f (by rcases hn with rfl | rfl | rfl | rfl <;> rfl) ?_
  repeat walk_at "st"
  repeat walk_at "st"
  refine c_here (by walk_at "dd") s2 f2 hl hw fun j p hj => ?_
  refine OkO.is _ (meth_of hj rfl rfl) ?_
  refine c_is_operator (by walk_at "dd") hj ?_
  refine Br.f (by rcases hn with rfl | rfl | rfl | rfl <;> rfl) ?_
  repeat walk_at "st"
  exact q n o h2 fn (o2 _ _ kn) g s2 f2 (x1.trans o2.ex)
theorem c_path {G : O → Prop} {w' : List Nat × List Nat} (hd : d + 3 < 60) (hl : ws.length ≤ LIM) (hp : Prm 693 [] (d + 2) k m i j dep ws G) (hw' : ws[i]? = some w') (hpx : px w') (hw : ws[j]? = some w) (hn : nx w) : Prm 679 [] d k m i j dep ws G := by
  intro h Q E hs hf q
  refine Wc.fn0 (om0 ‹_› rfl) rfl rfl rfl rfl ?_
  repeat walk_at "st"
  refine c_here (by walk_at "dd") hs hf hl hw' fun j' p hj => ?_
  have ho : decide (w'.1 = tOP) = false := by rcases hpx with e | e | e <;> rw [e] <;> rfl
  repeat walk_at "st"
  refine c_is_operator (by walk_at "dd") hj ?_
  refine Br.f (by rw [ho]; rfl) ?_
  repeat walk_at "st"
  refine c_is_operator (by walk_at "dd") hj ?_
  refine Br.f (by rw [ho]; rfl) ?_
  repeat walk_at "st"
  have hk : ∀ h, cmpV h .notIn (.str w'.1) (.tup [V.str [108, 105, 116, 101, 114, 97, 108], V.str [110, 117, 109, 98, 101, 114], V.str [118, 97, 114, 105, 97, 98, 108, 101], V.str [102, 117, 110, 99, 116, 105, 111, 110]]) = some false := by
    intro h
    rcases hpx with e | e | e <;> rw [e] <;> rfl
  refine Br.f (Option.some.inj (hk h)) ?_
  refine Br.f rfl ?_
  repeat walk_at "st"
  exact c_from_primary (by walk_at "dd") hl hp hw hn h _ _ hs hf q
theorem c_union {G : O → Prop} {w' : List Nat × List Nat} (hd : d + 4 < 60) (hl : ws.length ≤ LIM) (hp : Prm 693 [] (d + 3) k m i j dep ws G) (hw' : ws[i]? = some w') (hpx : px w') (hw : ws[j]? = some w) (hn : nx w) : Prm 672 [] d k m i j dep ws G := by
  intro h Q E hs hf q
  refine Wc.fn0 (om0 ‹_› rfl) rfl rfl rfl rfl ?_
  repeat walk_at "st"
  refine c_path (by walk_at "dd") hl hp hw' hpx hw hn h _ _ hs hf fun n o h1 fn kn g s1 f1 x1 => ?_
  refine Wl.step ?_
  repeat walk_at "st"
  refine c_here (by walk_at "dd") s1 f1 hl hw fun j p hj => ?_
  refine OkO.is _ (meth_of hj rfl rfl) ?_
  refine c_is_operator (by walk_at "dd") hj ?_
  refine Br.f (by rcases hn with rfl | rfl | rfl | rfl <;> rfl) ?_
  repeat walk_at "st"
  exact q n o h1 fn kn g s1 f1 x1
theorem c_negated {G : O → Prop} {w' : List Nat × List Nat} (hd : d + 5 < 60) (hl : ws.length ≤ LIM) (hp : Prm 693 [] (d + 4) k m i j dep ws G) (hw' : ws[i]? = some w') (hpx : px w') (hw : ws[j]? = some w) (hn : nx w) : Prm 665 [] d k m i j dep ws G := by
  intro h Q E hs hf q
  refine Wc.fn0 (om0 ‹_› rfl) rfl rfl rfl rfl ?_
  repeat walk_at "st"
  refine Wl.step ?_
  repeat walk_at "st"
  refine c_here (by walk_at "dd") hs hf hl hw' fun j p hj => ?_
  refine OkO.is _ (meth_of hj rfl rfl) ?_
  refine c_is_operator (by walk_at "dd") hj ?_
  refine Br.f (by rcases hpx with e | e | e <;> rw [e] <;> rfl) ?_
  repeat walk_at "st"
  refine Br.f rfl ?_
  repeat walk_at "st"
  refine c_union (by walk_at "dd") hl hp hw' hpx hw hn h _ _ hs hf fun n o h1 fn kn g s1 f1 x1 => ?_
  repeat walk_at "st"
  refine Wfor.stop rfl ?_
  repeat walk_at "st"
  exact q n o h1 fn kn g s1 f1 x1
theorem fresh_ne {h : Hp} {n : Nat} {o : O} (f : h[n]? = none) (s : h[k]? = some o) : n ≠ k := fun e => by rw [e, s] at f; cases f
theorem c_expr1 {G : O → Prop} {w' : List Nat × List Nat} {least : Int} (hd : d + 6 < 60) (hl : ws.length ≤ LIM) (hdep : dep < 49) (hle : lev w < least) (hp : Prm 693 [] (d + 5) k m i j (dep + 1) ws G) (hw' : ws[i]? = some w') (hpx : px w') (hw : ws[j]? = some w) (hn : nx w) : Prm 644 [.int least] d k m i j dep ws G := by
  intro h Q E hs hf q
  refine Wc.fn0 (om0 ‹_› rfl) rfl rfl rfl rfl ?_
  repeat walk_at "st"
  refine SetA.go hs rfl fun h1 s1 x1 => ?_
  have f1 := hf.rd hs x1
  repeat walk_at "st"
  refine Br.f (by simp; omega) ?_
  repeat walk_at "st"
  refine c_negated (by walk_at "dd") hl hp hw' hpx hw hn h1 _ _ s1 f1 fun n o h2 fn kn g s2 f2 x2 => ?_
  repeat walk_at "st"
  refine c_level (by walk_at "dd") s2 f2 hl hw hn ?_
  refine Wl.step ?_
  repeat walk_at "st"
  refine Br.f (by simp; omega) ?_
  repeat walk_at "st"
  refine SetA.go s2 rfl fun h3 s3 x3 => ?_
  repeat walk_at "st"
  have e : dep + 1 - 1 = dep := by omega
  have s3' : RC h3 k m j dep := by rw [← e]; exact s3
  have nk : n ≠ k := fresh_ne fn s1
  have hn' : h[n]? = none := by
    cases e : h[n]? with
    | none => rfl
    | some o => rw [x1 _ _ e nk] at fn; cases fn
  exact q n o h3 hn' (x3 _ _ kn nk) g s3' (f2.rd s2 x3) (x1.trans (x2.trans x3))
end
end Mine.Internal
end

section
open PySem
set_option autoImplicit false
namespace Mine.Internal
section
variable {d k m i j : Nat} {dep : Int} {h : Hp} {Q : QV} {E : QE} {ws : List (List Nat × List Nat)} {w : List Nat × List Nat}
theorem old_of {n : Nat} {h1 h2 : Hp} (f : h[n]? = none) (o : Old h h1) (x : Ex (· = n) h1 h2) : Old h h2 := fun j v e => x j v (o j v e) (ne_new e f)
theorem c_Literal {v : V} (hd : d + 1 < 60) (q : ∀ n h', h[n]? = none → h'[n]? = some (.inst 109 [(26, v)]) → Old h h' → Q (.ref n) h') : Wc d (.top 109) [v] h Q E := by
  refine Wc.cls' (om0 ‹_› rfl) rfl rfl fun n h1 f1 k1 o1 => ?_
  refine Wc.fn0 ‹_› rfl rfl rfl rfl ?_
  repeat walk_at "st"
  refine SetA.go k1 rfl fun h2 k2 x2 => ?_
  exact q n h2 f1 k2 (old_of f1 o1 x2)
theorem c_Number {v : V} (hd : d + 1 < 60) (q : ∀ n h', h[n]? = none → h'[n]? = some (.inst 137 [(26, v)]) → Old h h' → Q (.ref n) h') : Wc d (.top 137) [v] h Q E := by
  refine Wc.cls' (om0 ‹_› rfl) rfl rfl fun n h1 f1 k1 o1 => ?_
  refine Wc.fn0 ‹_› rfl rfl rfl rfl ?_
  repeat walk_at "st"
  refine SetA.go k1 rfl fun h2 k2 x2 => ?_
  exact q n h2 f1 k2 (old_of f1 o1 x2)
theorem c_Call {u v : V} (hd : d + 1 < 60) (q : ∀ n h', h[n]? = none → h'[n]? = some (.inst 193 [(29, u), (31, v)]) → Old h h' → Q (.ref n) h') : Wc d (.top 193) [u, v] h Q E := by
  refine Wc.cls' (om0 ‹_› rfl) rfl rfl fun n h1 f1 k1 o1 => ?_
  refine Wc.fn0 ‹_› rfl rfl rfl rfl ?_
  repeat walk_at "st"
  refine SetA.go k1 rfl fun h2 k2 x2 => ?_
  repeat walk_at "st"
  refine SetA.go k2 rfl fun h3 k3 x3 => ?_
  exact q n h3 f1 k3 (old_of f1 o1 (x2.trans x3))
theorem c_Binary {u v x : V} (hd : d + 1 < 60) (q : ∀ n h', h[n]? = none → h'[n]? = some (.inst 221 [(33, u), (34, v), (35, x)]) → Old h h' → Q (.ref n) h') : Wc d (.top 221) [u, v, x] h Q E := by
  refine Wc.cls' (om0 ‹_› rfl) rfl rfl fun n h1 f1 k1 o1 => ?_
  refine Wc.fn0 ‹_› rfl rfl rfl rfl ?_
  repeat walk_at "st"
  refine SetA.go k1 rfl fun h2 k2 x2 => ?_
  repeat walk_at "st"
  refine SetA.go k2 rfl fun h3 k3 x3 => ?_
  repeat walk_at "st"
  refine SetA.go k3 rfl fun h4 k4 x4 => ?_
  exact q n h4 f1 k4 (old_of f1 o1 (x2.trans (x3.trans x4)))
theorem dg_digit {c : Nat} (h : dg c = true) : isDigit c = true := by
  simp [dg, List.contains_eq_mem] at h
  rcases h with rfl | rfl | rfl | rfl | rfl | rfl | rfl | rfl | rfl | rfl <;> rfl
theorem c_number_value {ds : List Nat} (hd : d + 2 < 60) (ha : ds.all dg = true) (hl : ds.length ≤ 20) (q : Q (.tup [.int (numOf ds), .int 1]) h) : Wc d (.top 588) [.str ds] h Q E := by
  refine Wc.fn0 (om0 ‹_› rfl) rfl rfl rfl rfl ?_
  repeat walk_at "st"
  have hc : ds.contains 46 = false := by
    cases e : ds.contains 46 with
    | false => rfl
    | true =>
      have := List.all_eq_true.mp ha 46 (by simpa using e)
      cases this
  refine OkO.is (V.tup [V.str ds, V.str [], V.str []]) ?_ ?_
  · show (if ds.contains 46 then none else if ds.length ≤ LIM then some _ else none) = _
    rw [hc, if_neg (by simp), if_pos (by unfold LIM; exact om4 ‹_› rfl)]
  repeat walk_at "st"
  refine OkO.is _ (add_of (by simp [LIM]; exact om5 ‹_› rfl)) ?_
  repeat walk_at "st"
  refine OkO.is _ (add_of (by simp [LIM]; exact om4 ‹_› rfl)) ?_
  repeat walk_at "st"
  refine OkO.is (V.int (numOf ds)) ?_ ?_
  · show (if _ ∧ _ ∧ _ then some (V.int (numOf ([48] ++ ds ++ []))) else none) = _
    have hall : ([48] ++ ds ++ []).all isDigit = true := by
      rw [List.append_nil]
      show (isDigit 48 && ds.all isDigit) = true
      rw [Bool.and_eq_true]
      exact ⟨rfl, List.all_eq_true.mpr fun c hc => dg_digit (List.all_eq_true.mp ha c hc)⟩
    rw [if_pos ⟨by simp, by simp; exact om4 ‹_› rfl, hall⟩]
    simp [numOf]
  repeat walk_at "st"
  exact c_number_of (by walk_at "dd") (by omega) q
theorem c_prim_lit {X : List Nat} (hd : d + 2 < 60) (hl : ws.length ≤ LIM) (hw : ws[i]? = some (tLIT, X)) : Prm 693 [] d k m i (i + 1) dep ws (· = .inst 109 [(26, .str X)]) := by
  intro h Q E hs hf q
  refine Wc.fn0 (om0 ‹_› rfl) rfl rfl rfl rfl ?_
  repeat walk_at "st"
  refine c_go (by walk_at "dd") hs hf hl hw (show tLIT ≠ tEND by decide) fun j p h1 j1 s1 f1 x1 => ?_
  repeat walk_at "st"
  refine Br.t rfl ?_
  repeat walk_at "st"
  refine c_Literal (by walk_at "dd") fun n h2 f2 k2 o2 => ?_
  have nk : n ≠ k := fresh_ne f2 s1
  refine q n _ h2 ?_ k2 rfl (o2 _ _ s1) (f1.old o2) (x1.trans o2.ex)
  cases e : h[n]? with
  | none => rfl
  | some o => rw [x1 _ _ e nk] at f2; cases f2
theorem c_prim_num {X : List Nat} (hd : d + 4 < 60) (hl : ws.length ≤ LIM) (ha : X.all dg = true) (hX : X.length ≤ 20) (hw : ws[i]? = some (tNUM, X)) : Prm 693 [] d k m i (i + 1) dep ws (· = .inst 137 [(26, .tup [.int (numOf X), .int 1])]) := by
  intro h Q E hs hf q
  refine Wc.fn0 (om0 ‹_› rfl) rfl rfl rfl rfl ?_
  repeat walk_at "st"
  refine c_go (by walk_at "dd") hs hf hl hw (show tNUM ≠ tEND by decide) fun j p h1 j1 s1 f1 x1 => ?_
  repeat walk_at "st"
  refine Br.f rfl ?_
  repeat walk_at "st"
  refine Br.t rfl ?_
  repeat walk_at "st"
  refine c_number_value (by walk_at "dd") ha hX ?_
  repeat walk_at "st"
  refine c_Number (by walk_at "dd") fun n h2 f2 k2 o2 => ?_
  have nk : n ≠ k := fresh_ne f2 s1
  refine q n _ h2 ?_ k2 rfl (o2 _ _ s1) (f1.old o2) (x1.trans o2.ex)
  cases e : h[n]? with
  | none => rfl
  | some o => rw [x1 _ _ e nk] at f2; cases f2
theorem SF.ne {n : Nat} (f : SF h m ws) (e : h[n]? = none) : m ≠ n := by
  obtain ⟨rs, hr, zz⟩ := f
  exact ne_new hr e
theorem SF.lst {n : Nat} {rs : List V} {h' : Hp} (f : SF h m ws) (e : h[n]? = some (.list rs)) (ne : m ≠ n) (x : Ex (· = n) h h') : SF h' m ws := by
  obtain ⟨rs, hr, w⟩ := f
  exact ⟨rs, x _ _ hr ne, w.mono fun j p a b q => x _ _ q (ne_of q e (by intro q; cases q))⟩
theorem c_arguments {X Y : List Nat} (hd : d + 9 < 60) (hdep : dep < 48) (hl : ws.length ≤ LIM) (w0 : ws[i]? = some (tSG, [40])) (w1 : ws[i + 1]? = some (tLIT, X)) (w2 : ws[i + 2]? = some (tSG, [44])) (w3 : ws[i + 3]? = some (tLIT, Y)) (w4 : ws[i + 4]? = some (tSG, [41]))
    (hs : RC h k m i dep) (hf : SF h m ws) (q : ∀ v h', RC h' k m (i + 5) dep → SF h' m ws → Ex (· = k) h h' → Q v h') : Wc d (.top 700) [.ref k] h Q E := by
  refine Wc.fn0 (om0 ‹_› rfl) rfl rfl rfl rfl ?_
  repeat walk_at "st"
  refine c_need (by walk_at "dd") hs hf hl w0 fun h1 s1 f1 x1 => ?_
  repeat walk_at "st"
  refine New.go fun n h2 fn kn o2 => ?_
  have s2 := o2 _ _ s1
  have f2 := f1.old o2
  have nk : n ≠ k := fresh_ne fn s1
  repeat walk_at "st"
  refine c_here (by walk_at "dd") s2 f2 hl w1 fun j p hj => ?_
  refine OkO.is _ (meth_of hj rfl rfl) ?_
  refine c_is_sign (by walk_at "dd") hj ?_
  refine Br.t rfl ?_
  repeat walk_at "st"
  refine c_expr1 (w := (tSG, [44])) (by walk_at "dd") hl (by omega) (by decide) (c_prim_lit (by walk_at "dd") hl w1) w1 (.inl rfl) w2 (.inr (.inr (.inl rfl))) h2 _ _ s2 f2 fun n3 o3 h3 fn3 kn3 g3 s3 f3 x3 => ?_
  refine AppO.go (x3 _ _ kn nk) (by simp [LIM]) fun h4 k4 x4 => ?_
  have s4 : RC h4 k m (i + 2) dep := x4 _ _ s3 nk.symm
  have mn : m ≠ n := f1.ne fn
  have f4 := f3.lst (x3 _ _ kn nk) mn x4
  refine Wl.step ?_
  refine OkO.is _ (meth_of s4 rfl rfl) ?_
  refine c_here (by walk_at "dd") s4 f4 hl w2 fun j p hj => ?_
  refine OkO.is _ (meth_of hj rfl rfl) ?_
  refine c_is_sign (by walk_at "dd") hj ?_
  refine Br.t rfl ?_
  refine OkO.is _ (meth_of s4 rfl rfl) ?_
  refine c_go (by walk_at "dd") s4 f4 hl w2 (show tSG ≠ tEND by decide) fun j p h5 j5 s5 f5 x5 => ?_
  have k5 := x5 _ _ k4 nk
  refine OkO.is _ (app_of k5) ?_
  refine OkO.is _ (meth_of s5 rfl rfl) ?_
  refine c_expr1 (i := i + 3) (w := (tSG, [41])) (by walk_at "dd") hl (by omega) (by decide) (c_prim_lit (by walk_at "dd") hl w3) w3 (.inl rfl) w4 (.inr (.inl rfl)) h5 _ _ s5 f5 fun n6 o6 h6 fn6 kn6 g6 s6 f6 x6 => ?_
  refine AppO.go (x6 _ _ k5 nk) (by simp [LIM]) fun h7 k7 x7 => ?_
  have s7 : RC h7 k m (i + 4) dep := x7 _ _ s6 nk.symm
  have f7 := f6.lst (x6 _ _ k5 nk) mn x7
  refine Wl.step ?_
  refine OkO.is _ (meth_of s7 rfl rfl) ?_
  refine c_here (by walk_at "dd") s7 f7 hl w4 fun j p hj => ?_
  refine OkO.is _ (meth_of hj rfl rfl) ?_
  refine c_is_sign (by walk_at "dd") hj ?_
  refine Br.f rfl ?_
  refine OkO.is _ (meth_of s7 rfl rfl) ?_
  refine c_need (by walk_at "dd") s7 f7 hl w4 fun h8 s8 f8 x8 => ?_
  have k8 := x8 _ _ k7 nk
  repeat walk_at "st"
  refine OkO.is _ (tup_of k8 (by simp [LIM])) ?_
  refine q _ h8 s8 f8 ?_
  have old : ∀ (j : Nat) (o : O), h1[j]? = some o → ¬ j = k → h8[j]? = some o := fun j o e n' => by
    have jn : ¬ j = n := ne_new e fn
    exact x8 _ _ (x7 _ _ (x6 _ _ (x5 _ _ (x4 _ _ (x3 _ _ (o2 _ _ e) n') jn) n') n') jn) n'
  exact fun j o e n' => old j o (x1 _ _ e n') n'
theorem c_prim_fn {X Y : List Nat} (hd : d + 10 < 60) (hdep : dep < 48) (hl : ws.length ≤ LIM) (w : ws[i]? = some (tFN, CC)) (w0 : ws[i + 1]? = some (tSG, [40])) (w1 : ws[i + 2]? = some (tLIT, X)) (w2 : ws[i + 3]? = some (tSG, [44])) (w3 : ws[i + 4]? = some (tLIT, Y)) (w4 : ws[i + 5]? = some (tSG, [41])) : Prm 693 [] d k m i (i + 6) dep ws NoList := by
  intro h Q E hs hf q
  refine Wc.fn0 (om0 ‹_› rfl) rfl rfl rfl rfl ?_
  repeat walk_at "st"
  refine c_go (by walk_at "dd") hs hf hl w (show tFN ≠ tEND by decide) fun j p h1 j1 s1 f1 x1 => ?_
  repeat walk_at "st"
  refine Br.f rfl ?_
  repeat walk_at "st"
  refine Br.f rfl ?_
  repeat walk_at "st"
  refine Br.f rfl ?_
  repeat walk_at "st"
  refine Br.t rfl ?_
  repeat walk_at "st"
  refine c_arguments (i := i + 1) (by walk_at "dd") hdep hl w0 w1 w2 w3 w4 s1 f1 fun v h2 s2 f2 x2 => ?_
  repeat walk_at "st"
  refine c_Call (by walk_at "dd") fun n h3 f3 k3 o3 => ?_
  have nk : n ≠ k := fresh_ne f3 s2
  refine q n _ h3 ?_ k3 (fun vs q => by cases q) (o3 _ _ s2) (f2.old o3) (x1.trans (x2.trans o3.ex))
  cases e : h[n]? with
  | none => rfl
  | some o => rw [x2 _ _ (x1 _ _ e nk) nk] at f3; cases f3
theorem c_counted (hd : d < 60) (q : Q (.int 1) h) : Wc d (.top 651) [.ref k, .int 0] h Q E := by
  refine Wc.fn0 hd rfl rfl rfl rfl ?_
  repeat walk_at "st"
  refine Br.f rfl ?_
  repeat walk_at "st"
  exact q
theorem c_sum {X Y : List Nat} (hd : d + 14 < 60) (hdep : dep < 47) (hl : ws.length ≤ LIM) (aX : X.all dg = true) (lX : X.length ≤ 20) (aY : Y.all dg = true) (lY : Y.length ≤ 20) (w0 : ws[i]? = some (tNUM, X)) (w1 : ws[i + 1]? = some (tOP, [43])) (w2 : ws[i + 2]? = some (tNUM, Y)) (w3 : ws[i + 3]? = some (tEND, [])) : Prm 644 [.int 1] d k m i (i + 3) dep ws NoList := by
  intro h Q E hs hf q
  refine Wc.fn0 (om0 ‹_› rfl) rfl rfl rfl rfl ?_
  repeat walk_at "st"
  refine SetA.go hs rfl fun h1 s1 x1 => ?_
  have f1 := hf.rd hs x1
  repeat walk_at "st"
  refine Br.f (by simp; omega) ?_
  repeat walk_at "st"
  refine c_negated (by walk_at "dd") hl (c_prim_num (by walk_at "dd") hl aX lX w0) w0 (.inr (.inl rfl)) w1 (.inr (.inr (.inr rfl))) h1 _ _ s1 f1 fun n o h2 fn kn g s2 f2 x2 => ?_
  repeat walk_at "st"
  refine c_level (by walk_at "dd") s2 f2 hl w1 (.inr (.inr (.inr rfl))) ?_
  refine Wl.step ?_
  repeat walk_at "st"
  refine Br.t rfl ?_
  repeat walk_at "st"
  refine c_go (by walk_at "dd") s2 f2 hl w1 (show tOP ≠ tEND by decide) fun j p h3 j3 s3 f3 x3 => ?_
  repeat walk_at "st"
  refine c_expr1 (i := i + 2) (w := (tEND, [])) (by walk_at "dd") hl (by omega) (by decide) (c_prim_num (by walk_at "dd") hl aY lY w2) w2 (.inr (.inl rfl)) w3 (.inl rfl) h3 _ _ s3 f3 fun n4 o4 h4 fn4 kn4 g4 s4 f4 x4 => ?_
  repeat walk_at "st"
  refine c_Binary (by walk_at "dd") fun n5 h5 fn5 k5 o5 => ?_
  have s5 := o5 _ _ s4
  have f5 := f4.old o5
  repeat walk_at "st"
  refine c_level (by walk_at "dd") s5 f5 hl w3 (.inl rfl) ?_
  repeat walk_at "st"
  refine c_counted (by walk_at "dd") ?_
  refine Wl.step ?_
  repeat walk_at "st"
  refine Br.f rfl ?_
  repeat walk_at "st"
  refine SetA.go s5 rfl fun h6 s6 x6 => ?_
  repeat walk_at "st"
  have e : dep + 1 - 1 = dep := by omega
  have s6' : RC h6 k m (i + 3) dep := by rw [← e]; exact s6
  have nk : n5 ≠ k := fresh_ne fn5 s4
  have all : Ex (· = k) h h4 := x1.trans (x2.trans (x3.trans x4))
  refine q n5 _ h6 ?_ (x6 _ _ k5 nk) (fun vs q => by cases q) s6' (f5.rd s5 x6) (all.trans (o5.ex.trans x6))
  cases e : h[n5]? with
  | none => rfl
  | some o => rw [all _ _ e nk] at fn5; cases fn5
inductive Shape : List (List Nat × List Nat) → (O → Prop) → Prop
  | lit (X : List Nat) : Shape [(tLIT, X), (tEND, [])] (· = .inst 109 [(26, .str X)])
  | num (X : List Nat) (ha : X.all dg = true) (hX : X.length ≤ 20) : Shape [(tNUM, X), (tEND, [])] (· = .inst 137 [(26, .tup [.int (numOf X), .int 1])])
  | sum (X Y : List Nat) (aX : X.all dg = true) (lX : X.length ≤ 20) (aY : Y.all dg = true) (lY : Y.length ≤ 20) : Shape [(tNUM, X), (tOP, [43]), (tNUM, Y), (tEND, [])] NoList
  | cc (X Y : List Nat) : Shape [(tFN, CC), (tSG, [40]), (tLIT, X), (tSG, [44]), (tLIT, Y), (tSG, [41]), (tEND, [])] NoList
theorem c_whole {G : O → Prop} (hd : d + 20 < 60) (hws : Shape ws G) (hs : RC h k m 0 0) (hf : SF h m ws) (q : ∀ n o h', h'[n]? = some o → G o → Ex (· = k) h h' → Q (.ref n) h') : Wc d (.top 637) [.ref k] h Q E := by
  refine Wc.fn0 (om0 ‹_› rfl) rfl rfl rfl rfl ?_
  repeat walk_at "st"
  obtain ⟨e, hl, he, hp⟩ : ∃ e, ws.length ≤ LIM ∧ ws[e]? = some (tEND, []) ∧ Prm 644 [.int 1] (d + 1) k m 0 e 0 ws G := by
    cases hws with
    | lit X => exact ⟨1, (by simp [LIM]), rfl, (c_expr1 (w := (tEND, [])) (om2 ‹_› rfl) (by simp [LIM]) (by omega) (by decide) (c_prim_lit (om3 ‹_› rfl) (by simp [LIM]) rfl) rfl (.inl rfl) rfl (.inl rfl))⟩
    | num X ha hX => exact ⟨1, (by simp [LIM]), rfl, (c_expr1 (w := (tEND, [])) (om2 ‹_› rfl) (by simp [LIM]) (by omega) (by decide) (c_prim_num (om3 ‹_› rfl) (by simp [LIM]) ha hX rfl) rfl (.inr (.inl rfl)) rfl (.inl rfl))⟩
    | sum X Y aX lX aY lY => exact ⟨3, (by simp [LIM]), rfl, (c_sum (om2 ‹_› rfl) (by omega) (by simp [LIM]) aX lX aY lY rfl rfl rfl rfl)⟩
    | cc X Y => exact ⟨6, (by simp [LIM]), rfl, (c_expr1 (w := (tEND, [])) (om2 ‹_› rfl) (by simp [LIM]) (by omega) (by decide) (c_prim_fn (X := X) (Y := Y) (om3 ‹_› rfl) (by omega) (by simp [LIM]) rfl rfl rfl rfl rfl rfl) rfl (.inr (.inr rfl)) rfl (.inl rfl))⟩
  refine hp h _ _ hs hf fun n o h1 fn kn g s1 f1 x1 => ?_
  repeat walk_at "st"
  refine c_here (by walk_at "dd") s1 f1 hl he fun j p hj => ?_
  repeat walk_at "st"
  refine Br.f rfl ?_
  repeat walk_at "st"
  exact q n o h1 kn g x1
theorem c_parse_path {t : List Nat} {G : O → Prop} (hd : d + 22 < 60) (hl : t.length ≤ LIM) (hw : Words t ws) (hs : Shape ws G) (q : ∀ n o h', h'[n]? = some o → G o → Old h h' → Q (.ref n) h') : Wc d (.top 756) [.str t] h Q E := by
  refine Wc.fn0 (om0 ‹_› rfl) rfl rfl rfl rfl ?_
  repeat walk_at "st"
  refine c_path_words (by walk_at "dd") hl hw fun h1 m fm f1 o1 => ?_
  repeat walk_at "st"
  refine Wc.cls' (by walk_at "dd") rfl rfl fun n h2 fn kn o2 => ?_
  refine Wc.fn0 (by walk_at "dd") rfl rfl rfl rfl ?_
  repeat walk_at "st"
  refine SetA.go kn rfl fun h3 k3 x3 => ?_
  repeat walk_at "st"
  refine SetA.go k3 rfl fun h4 k4 x4 => ?_
  repeat walk_at "st"
  refine SetA.go k4 rfl fun h5 k5 x5 => ?_
  have old : Old h1 h5 := old_of fn o2 (x3.trans (x4.trans x5))
  repeat walk_at "st"
  refine c_whole (by walk_at "dd") hs k5 (f1.old old) fun n' o h6 k6 g x6 => ?_
  exact q n' o h6 k6 g (o1.trans (old_of fn (old) x6))
end
end Mine.Internal
end

section
open PySem
set_option autoImplicit false
namespace Mine.Internal
noncomputable def scanQ : Option Nat → List Nat → Option (Option Nat)
  | q, [] => some q
  | some q, c :: r => if c = q then scanQ none r else scanQ (some q) r
  | none, c :: r => if c = 39 ∨ c = 34 then scanQ (some c) r else if c = 125 ∨ c = 123 then none else scanQ none r
section
variable {d : Nat} {t : List Nat} {h : Hp} {Q : QV} {E : QE}
theorem ee_loop {N B C : QL} {Rt : QV} (hd : d < 50) (hl : t.length ≤ 4000) (hL : t.length ≤ LIM) : ∀ (p : List Nat) (q q' : Option Nat) (i : Nat) (r : List Nat) (l : List (Nat × V)), scanQ q p = some q' → t.drop i = p ++ r → lk 70 l = some (.str t) → lk 75 l = some (.int i) → lk 91 l = some (.str q.toList) → (∀ l', t.drop (i + p.length) = r → lk 70 l' = some (.str t) → lk 75 l' = some (.int (i + p.length : Nat)) → lk 91 l' = some (.str q'.toList) → Wl (nth fi_expression_end.body 1) l' [] d h N B C Rt E) → Wl (nth fi_expression_end.body 1) l [] d h N B C Rt E := by
  intro p
  induction p with
  | nil =>
    intro q q' i r l hs e h70 h75 h91 k
    have e' : q = q' := by cases q <;> (injection hs)
    exact k l e h70 h75 (e' ▸ h91)
  | cons c p ih =>
    intro q q' i r l hs e h70 h75 h91 k
    have e' : t.drop i = c :: (p ++ r) := e
    obtain ⟨g1, g2, g3⟩ := drop_cons e'
    have k' : ∀ l', t.drop (i + 1 + p.length) = r → lk 70 l' = some (.str t) → lk 75 l' = some (.int (i + 1 + p.length : Nat)) → lk 91 l' = some (.str q'.toList) → Wl (nth fi_expression_end.body 1) l' [] d h N B C Rt E := fun l' => by
      have := k l'
      rw [show i + (c :: p).length = i + 1 + p.length by simp; exact om7] at this
      exact this
    refine Wl.step ?_
    repeat walk_at "sb"
    refine Br.t (by simp; omega) ?_
    repeat walk_at "sb"
    refine OkO.is _ (idx_str g1 hL) ?_
    repeat walk_at "sb"
    cases q with
    | some q =>
      refine Br.t rfl ?_
      repeat walk_at "sb"
      change (if c = q then scanQ none p else scanQ (some q) p) = some q' at hs
      by_cases eq : c = q
      · rw [if_pos eq] at hs
        refine Br.t (by simp [eq]) ?_
        repeat walk_at "sb"
        exact ih none q' (i + 1) r _ hs g2 (by walk_at "lk") (by walk_at "lk") (by walk_at "lk") k'
      · rw [if_neg eq] at hs
        refine Br.f (by simp [eq]) ?_
        repeat walk_at "sb"
        exact ih (some q) q' (i + 1) r _ hs g2 (by walk_at "lk") (by walk_at "lk") (by walk_at "lk") k'
    | none =>
      refine Br.f rfl ?_
      repeat walk_at "sb"
      change (if c = 39 ∨ c = 34 then scanQ (some c) p else if c = 125 ∨ c = 123 then none else scanQ none p) = some q' at hs
      by_cases eq : c = 39 ∨ c = 34
      · rw [if_pos eq] at hs
        refine Br.t (by rcases eq with rfl | rfl <;> rfl) ?_
        repeat walk_at "sb"
        exact ih (some c) q' (i + 1) r _ hs g2 (by walk_at "lk") (by walk_at "lk") (by walk_at "lk") k'
      · rw [if_neg eq] at hs
        by_cases eb : c = 125 ∨ c = 123
        · rw [if_pos eb] at hs; cases hs
        · rw [if_neg eb] at hs
          refine Br.f (by simp; omega) ?_
          repeat walk_at "sb"
          refine Br.f (by simp; omega) ?_
          repeat walk_at "sb"
          refine Br.f (by simp; omega) ?_
          repeat walk_at "sb"
          exact ih none q' (i + 1) r _ hs g2 (by walk_at "lk") (by walk_at "lk") (by walk_at "lk") k'
theorem c_expression_end {p r : List Nat} {i : Nat} (hd : d + 1 < 50) (hl : t.length ≤ 4000) (hL : t.length ≤ LIM) (hp : scanQ none p = some none) (e : t.drop i = p ++ 125 :: r) (q : Q (.int (i + p.length : Nat)) h) : Wc d (.top 763) [.str t, .int i] h Q E := by
  refine Wc.fn0 (om0 ‹_› rfl) rfl rfl rfl rfl ?_
  repeat walk_at "sb"
  refine ee_loop ‹_› hl hL p none none i _ _ hp e (by walk_at "lk") (by walk_at "lk") (by walk_at "lk") fun l e1 h70 h75 h91 => ?_
  obtain ⟨g1, g2, g3⟩ := drop_cons e1
  refine Wl.step ?_
  repeat walk_at "sb"
  refine Br.t (by simp; omega) ?_
  repeat walk_at "sb"
  refine OkO.is _ (idx_str g1 hL) ?_
  repeat walk_at "sb"
  refine Br.f rfl ?_
  repeat walk_at "sb"
  refine Br.f rfl ?_
  repeat walk_at "sb"
  refine Br.t rfl ?_
  repeat walk_at "sb"
  exact q
noncomputable def NoEnd (r : List Nat) : Prop := (∃ q, scanQ none r = some q) ∨ (∃ p r', r = p ++ 123 :: r' ∧ scanQ none p = some none)
theorem c_expression_end_bad {r : List Nat} {i : Nat} (hd : d + 1 < 50) (hl : t.length ≤ 4000) (hL : t.length ≤ LIM) (hp : NoEnd r) (e : t.drop i = r) (q : ∀ m, E 56 m h) : Wc d (.top 763) [.str t, .int i] h Q E := by
  refine Wc.fn0 (om0 ‹_› rfl) rfl rfl rfl rfl ?_
  repeat walk_at "sb"
  rcases hp with ⟨q', hp⟩ | ⟨p, r', hr, hp⟩
  · refine ee_loop ‹_› hl hL r none q' i [] _ hp (by rw [e]; simp) (by walk_at "lk") (by walk_at "lk") (by walk_at "lk") fun l e1 h70 h75 h91 => ?_
    have := (drop_nil e1).2
    refine Wl.step ?_
    repeat walk_at "sb"
    refine Br.f (by simp; omega) ?_
    repeat walk_at "sb"
    refine OkO.is _ (add_of (by simp [LIM]; omega)) ?_
    exact ⟨⟨rfl, by walk_at "dd"⟩, q _⟩
  · refine ee_loop ‹_› hl hL p none none i (123 :: r') _ hp (by rw [e, hr]) (by walk_at "lk") (by walk_at "lk") (by walk_at "lk") fun l e1 h70 h75 h91 => ?_
    obtain ⟨g1, g2, g3⟩ := drop_cons e1
    refine Wl.step ?_
    repeat walk_at "sb"
    refine Br.t (by simp; omega) ?_
    repeat walk_at "sb"
    refine OkO.is _ (idx_str g1 hL) ?_
    repeat walk_at "sb"
    refine Br.f rfl ?_
    repeat walk_at "sb"
    refine Br.f rfl ?_
    repeat walk_at "sb"
    refine Br.f rfl ?_
    repeat walk_at "sb"
    refine Br.t rfl ?_
    repeat walk_at "sb"
    refine OkO.is _ (add_of (by simp [LIM]; omega)) ?_
    exact ⟨⟨rfl, by walk_at "dd"⟩, q _⟩
end
end Mine.Internal
end

section
open PySem
set_option autoImplicit false
namespace Mine.Internal
noncomputable abbrev Part := List Nat × List Nat
noncomputable abbrev tTXT : List Nat := [116, 101, 120, 116]
noncomputable abbrev tPATH : List Nat := [112, 97, 116, 104]
noncomputable def tupv (p : Part) : V := .tup [.str p.1, .str p.2]
inductive El where | ch (c : Nat) | br (c : Nat) | ex (p : List Nat)
noncomputable def El.ctorIdx (x : El) : Nat := @El.casesOn (fun zz => Nat) x (fun zz => 0) (fun zz => 1) (fun zz => 2)
noncomputable def El.txt : El → List Nat
  | .ch c => [c]
  | .br c => [c, c]
  | .ex p => 123 :: (p ++ [125])
noncomputable def El.ok : El → Prop
  | .ch c => c ≠ 123 ∧ c ≠ 125
  | .br c => c = 123 ∨ c = 125
  | .ex p => scanQ none p = some none
noncomputable def wr : List El → List Nat
  | [] => []
  | e :: es => e.txt ++ wr es
noncomputable def flush (pl : List Nat) : List Part := if pl = [] then [] else [(tTXT, pl)]
noncomputable def go : List El → List Nat → List Part → List Nat × List Part
  | [], pl, ps => (pl, ps)
  | .ch c :: es, pl, ps => go es (pl ++ [c]) ps
  | .br c :: es, pl, ps => go es (pl ++ [c]) ps
  | .ex p :: es, pl, ps => go es [] (ps ++ flush pl ++ [(tPATH, p)])
noncomputable def parts (es : List El) : List Part := (go es [] []).2 ++ flush (go es [] []).1
theorem cut1 {t : List Nat} {i : Nat} : cut t (i + 1) (i + 2) = (t[i + 1]?).toList := by
  unfold cut
  rw [List.drop_take, show i + 2 - (i + 1) = 1 by omega]
  cases e : t[i + 1]? with
  | none =>
    rw [List.drop_eq_nil_of_le (List.getElem?_eq_none_iff.mp e)]; rfl
  | some x =>
    obtain ⟨hx, e⟩ := List.getElem?_eq_some_iff.mp e
    rw [List.drop_eq_getElem_cons hx, e]; rfl
section
variable {d n : Nat} {t : List Nat} {h : Hp} {Q : QV} {E : QE}
theorem sa_loop {N B C : QL} {Rt : QV} (hd : d + 1 < 50) (hl : t.length ≤ 4000) (hL : t.length ≤ LIM) : ∀ (es : List El) (i : Nat) (pl : List Nat) (ps : List Part) (r : List Nat) (l : List (Nat × V)) (h : Hp), (∀ e ∈ es, El.ok e) → t.drop i = wr es ++ r → i ≤ t.length → ps.length + pl.length ≤ i → h[n]? = some (.list (ps.map tupv)) → lk 70 l = some (.str t) → lk 75 l = some (.int i) → lk 141 l = some (.str pl) → lk 21 l = some (.ref n) →
    (∀ i' l' h', t.drop i' = r → i' ≤ t.length → (go es pl ps).2.length + (go es pl ps).1.length ≤ i' → h'[n]? = some (.list ((go es pl ps).2.map tupv)) → Ex (· = n) h h' → lk 70 l' = some (.str t) → lk 75 l' = some (.int i') → lk 141 l' = some (.str (go es pl ps).1) → lk 21 l' = some (.ref n) → Wl (nth fi_split_avt.body 3) l' [] d h' N B C Rt E) → Wl (nth fi_split_avt.body 3) l [] d h N B C Rt E := by
  intro es
  induction es with
  | nil =>
    intro i pl ps r l h ok e hi hp hn h70 h75 h141 h21 k
    exact k i l h e hi hp hn Ex.refl h70 h75 h141 h21
  | cons el0 es ih => cases el0 with
    | ch c =>
      intro i pl ps r l h ok e hi hp hn h70 h75 h141 h21 k
      have e' : t.drop i = c :: (wr es ++ r) := e
      obtain ⟨g1, g2, g3⟩ := drop_cons e'
      have oc : c ≠ 123 ∧ c ≠ 125 := ok _ (.head _)
      refine Wl.step ?_
      repeat walk_at "sb"
      refine Br.t (by simp; omega) ?_
      repeat walk_at "sb"
      refine OkO.is _ (idx_str g1 hL) ?_
      repeat walk_at "sb"
      refine Br.f (by simp; exact ‹_›) ?_
      refine Br.f rfl ?_
      repeat walk_at "sb"
      refine Br.f (by simp; omega) ?_
      repeat walk_at "sb"
      refine Br.f (by simp; omega) ?_
      repeat walk_at "sb"
      refine OkO.is _ (add_of (by simp [LIM]; omega)) ?_
      repeat walk_at "sb"
      exact ih (i + 1) (pl ++ [c]) ps r _ h (fun e he => ok e (.tail _ he)) g2 g3 (by simp; omega) hn (by walk_at "lk") (by walk_at "lk") (by walk_at "lk") (by walk_at "lk") k
    | br c =>
      intro i pl ps r l h ok e hi hp hn h70 h75 h141 h21 k
      have e' : t.drop i = c :: (c :: (wr es ++ r)) := e
      obtain ⟨g1, g2, g3⟩ := drop_cons e'
      obtain ⟨g4, g5, g6⟩ := drop_cons g2
      have oc : c = 123 ∨ c = 125 := ok _ (.head _)
      refine Wl.step ?_
      repeat walk_at "sb"
      refine Br.t (by simp; omega) ?_
      repeat walk_at "sb"
      refine OkO.is _ (idx_str g1 hL) ?_
      repeat walk_at "sb"
      refine Br.t (by rcases oc with rfl | rfl <;> rfl) ?_
      repeat walk_at "sb"
      refine OkO.is _ (cut_of (a := i + 1) (b := i + 2) om15 hL) ?_
      rw [cut1, g4]
      repeat walk_at "sb"
      refine Br.t (by simp) ?_
      repeat walk_at "sb"
      refine OkO.is _ (add_of (by simp [LIM]; omega)) ?_
      repeat walk_at "sb"
      exact ih (i + 2) (pl ++ [c]) ps r _ h (fun e he => ok e (.tail _ he)) g5 (Nat.succ_le_of_lt ‹_›) (by simp; omega) hn (by walk_at "lk") (by walk_at "lk") (by walk_at "lk") (by walk_at "lk") k
    | ex p =>
      intro i pl ps r l h ok e hi hp hn h70 h75 h141 h21 k
      have e' : t.drop i = 123 :: (p ++ 125 :: (wr es ++ r)) := by rw [e]; show ([123] ++ p ++ [125]) ++ wr es ++ r = _; simp
      obtain ⟨g1, g2, g3⟩ := drop_cons e'
      have oc : scanQ none p = some none := ok _ (.head _)
      have g4 := drop_app g2
      obtain ⟨g5, g6, g7⟩ := drop_cons g4
      have g8 : t[i + 1]? ≠ some 123 := by
        cases p with
        | nil => rw [(drop_cons g2).1]; simp
        | cons c p =>
          rw [(drop_cons g2).1]
          intro q
          cases q
          exact no_some oc
      have g9 : cut t (i + 1) (i + 1 + p.length) = p := drop_cut g2
      refine Wl.step ?_
      repeat walk_at "sb"
      refine Br.t (by simp; omega) ?_
      repeat walk_at "sb"
      refine OkO.is _ (idx_str g1 hL) ?_
      repeat walk_at "sb"
      refine Br.t rfl ?_
      repeat walk_at "sb"
      refine OkO.is _ (cut_of (a := i + 1) (b := i + 2) om15 hL) ?_
      rw [cut1]
      repeat walk_at "sb"
      refine Br.f (by
        cases q : t[i + 1]? with
        | none => rfl
        | some x => simp; intro q'; exact g8 (by rw [q, q'])) ?_
      repeat walk_at "sb"
      refine Br.t rfl ?_
      repeat walk_at "sb"
      refine c_expression_end (i := i + 1) (by walk_at "dd") hl hL oc g2 ?_
      repeat walk_at "sb"
      have rest : ∀ l' h1, h1[n]? = some (.list ((ps ++ flush pl).map tupv)) → Ex (· = n) h h1 → lk 70 l' = some (.str t) → lk 92 l' = some (.int (i + 1 + p.length : Nat)) → lk 75 l' = some (.int i) → lk 21 l' = some (.ref n) → wpxs [S.expr (T.meth (T.var 21) 81 [T.tup [T.str [112, 97, 116, 104], T.slice (T.var 70) (some (T.bin (Bop.add) (T.var 75) (T.int 1))) (some (T.var 92))]]), S.asg (Tg.name 141) (T.str []), S.asg (Tg.name 75) (T.bin (Bop.add) (T.var 92) (T.int 1))] l' [] d h1 (fun l h => Wl (nth fi_split_avt.body 3) l [] d h N B C Rt E) (fun l h => N l h) (fun l h => Wl (nth fi_split_avt.body 3) l [] d h N B C Rt E) Rt E := by
        intro l' h1 n1 x1 a70 a92 a75 a21
        repeat walk_at "sb"
        refine OkO.is _ (cut_of (a := i + 1) (Nat.le_add_right _ _) hL) ?_
        rw [g9]
        have hlen : (ps ++ flush pl).length ≤ i := by
          unfold flush
          split
          · simp; exact om10 ‹_›
          · rename_i q
            have : pl.length ≠ 0 := fun q' => q (List.length_eq_zero_iff.mp q')
            simp; omega
        refine AppO.go n1 (by simp at hlen ⊢; unfold LIM; exact om18 ‹_› ‹_› ‹_› rfl) fun h2 n2 x2 => ?_
        repeat walk_at "sb"
        have n2' : h2[n]? = some (.list ((ps ++ flush pl ++ [(tPATH, p)]).map tupv)) := by
          rw [n2]; simp only [List.map_append]; rfl
        exact ih (i + 1 + p.length + 1) [] (ps ++ flush pl ++ [(tPATH, p)]) r _ h2 (fun e he => ok e (.tail _ he)) g6 (Nat.succ_le_of_lt ‹_›) (by simp at hlen ⊢; omega) n2' (by walk_at "lk") (by walk_at "lk") (by walk_at "lk") (by walk_at "lk") fun i' l' h' a1 a2 a3 a4 a5 => k i' l' h' a1 a2 a3 a4 (x1.trans (x2.trans a5))
      by_cases hpl : pl = []
      · refine Br.f (by simp [hpl]) ?_
        exact rest _ _ (by rw [hn, flush, if_pos hpl, List.append_nil]) Ex.refl (by walk_at "lk") (by walk_at "lk") (by walk_at "lk") (by walk_at "lk")
      · refine Br.t (by simp [hpl]) ?_
        repeat walk_at "sb"
        refine AppO.go hn (by simp; unfold LIM; omega) fun h1 n1 x1 => ?_
        exact rest _ _ (by rw [n1, flush, if_neg hpl, List.map_append]; rfl) x1 (by walk_at "lk") (by walk_at "lk") (by walk_at "lk") (by walk_at "lk")
theorem c_split_avt {es : List El} (hd : d + 3 < 50) (hl : t.length ≤ 4000) (ok : ∀ e ∈ es, El.ok e) (e : t = wr es) (q : ∀ n h', h[n]? = none → h'[n]? = some (.list ((parts es).map tupv)) → Old h h' → Q (.ref n) h') : Wc d (.top 770) [.str t] h Q E := by
  have hL : t.length ≤ LIM := by unfold LIM; exact om4 ‹_› rfl
  refine Wc.fn0 (om0 ‹_› rfl) rfl rfl rfl rfl ?_
  repeat walk_at "sb"
  refine New.go fun n h1 f1 k1 o1 => ?_
  repeat walk_at "sb"
  refine sa_loop (om2 ‹_› rfl) hl hL es 0 [] [] [] _ h1 ok (by rw [e]; simp) (Nat.zero_le _) (by simp) k1 (by walk_at "lk") (by walk_at "lk") (by walk_at "lk") (by walk_at "lk") fun i2 l2 h2 e2 le2 hp k2 x2 h70 h75 h141 h21 => ?_
  have := (drop_nil e2).2
  refine Wl.step ?_
  repeat walk_at "sb"
  refine Br.f (by simp; exact ‹_›) ?_
  repeat walk_at "sb"
  by_cases hpl : (go es [] []).1 = []
  · refine Br.f (by simp [hpl]) ?_
    repeat walk_at "sb"
    exact q n h2 f1 (by rw [k2, parts, flush, if_pos hpl, List.append_nil]) (old_of f1 o1 x2)
  · refine Br.t (by simp [hpl]) ?_
    repeat walk_at "sb"
    refine AppO.go k2 (by simp; unfold LIM; omega) fun h3 k3 x3 => ?_
    repeat walk_at "sb"
    exact q n h3 f1 (by rw [k3, parts, flush, if_neg hpl, List.map_append]; rfl) (old_of f1 o1 (x2.trans x3))
noncomputable def Bad (r : List Nat) : Prop := (∃ r', r = 125 :: r' ∧ r'.head? ≠ some 125) ∨ (∃ r', r = 123 :: r' ∧ r'.head? ≠ some 123 ∧ NoEnd r')
theorem c_split_bad {es : List El} {r : List Nat} (hd : d + 3 < 50) (hl : t.length ≤ 4000) (ok : ∀ e ∈ es, El.ok e) (e : t = wr es ++ r) (hb : Bad r) (q : ∀ m h', Old h h' → E 56 m h') : Wc d (.top 770) [.str t] h Q E := by
  have hL : t.length ≤ LIM := by unfold LIM; exact om4 ‹_› rfl
  refine Wc.fn0 (om0 ‹_› rfl) rfl rfl rfl rfl ?_
  repeat walk_at "sb"
  refine New.go fun n h1 f1 k1 o1 => ?_
  repeat walk_at "sb"
  refine sa_loop (om2 ‹_› rfl) hl hL es 0 [] [] r _ h1 ok (by rw [e]; simp) (Nat.zero_le _) (by simp) k1 (by walk_at "lk") (by walk_at "lk") (by walk_at "lk") (by walk_at "lk") fun i2 l2 h2 e2 le2 hp k2 x2 h70 h75 h141 h21 => ?_
  have o2 : Old h h2 := old_of f1 o1 x2
  rcases hb with ⟨r', rfl, hh⟩ | ⟨r', rfl, hh, hne⟩
  · obtain ⟨g1, g2, g3⟩ := drop_cons e2
    have g4 : t[i2 + 1]? ≠ some 125 := by
      rw [← g2] at hh
      rwa [List.head?_drop] at hh
    refine Wl.step ?_
    repeat walk_at "sb"
    refine Br.t (by simp; omega) ?_
    repeat walk_at "sb"
    refine OkO.is _ (idx_str g1 hL) ?_
    repeat walk_at "sb"
    refine Br.t rfl ?_
    repeat walk_at "sb"
    refine OkO.is _ (cut_of (a := i2 + 1) (b := i2 + 2) om15 hL) ?_
    rw [cut1]
    repeat walk_at "sb"
    refine Br.f (by
      cases q : t[i2 + 1]? with
      | none => rfl
      | some x => simp; intro q'; exact g4 (by rw [q, q'])) ?_
    repeat walk_at "sb"
    refine Br.f rfl ?_
    repeat walk_at "sb"
    refine Br.t rfl ?_
    repeat walk_at "sb"
    refine OkO.is _ (add_of (by simp [LIM]; omega)) ?_
    exact ⟨⟨rfl, by walk_at "dd"⟩, q _ _ o2⟩
  · obtain ⟨g1, g2, g3⟩ := drop_cons e2
    have g4 : t[i2 + 1]? ≠ some 123 := by
      rw [← g2] at hh
      rwa [List.head?_drop] at hh
    refine Wl.step ?_
    repeat walk_at "sb"
    refine Br.t (by simp; omega) ?_
    repeat walk_at "sb"
    refine OkO.is _ (idx_str g1 hL) ?_
    repeat walk_at "sb"
    refine Br.t rfl ?_
    repeat walk_at "sb"
    refine OkO.is _ (cut_of (a := i2 + 1) (b := i2 + 2) om15 hL) ?_
    rw [cut1]
    repeat walk_at "sb"
    refine Br.f (by
      cases q : t[i2 + 1]? with
      | none => rfl
      | some x => simp; intro q'; exact g4 (by rw [q, q'])) ?_
    repeat walk_at "sb"
    refine Br.t rfl ?_
    repeat walk_at "sb"
    exact c_expression_end_bad (i := i2 + 1) (by walk_at "dd") hl hL hne g2 fun m => q m _ o2
theorem c_refused {es : List El} {r : List Nat} (hd : d + 4 < 50) (hl : t.length ≤ 4000) (ok : ∀ e ∈ es, El.ok e) (e : t = wr es ++ r) (hb : Bad r) (q : ∀ h', Old h h' → Q (.bool true) h') : Wc d (.top 840) [.str t] h Q E := by
  refine Wc.fn0 (om0 ‹_› rfl) rfl rfl rfl rfl ?_
  repeat walk_at "sb"
  refine c_split_bad (by walk_at "dd") hl ok e hb fun m h' o => ?_
  exact ⟨⟨rfl, rfl⟩, q h' o⟩
end
end Mine.Internal
end

section
open PySem
set_option autoImplicit false
namespace Mine.Internal
theorem isLst_list {h : Hp} {n : Nat} {vs : List V} (e : h[n]? = some (.list vs)) : isLst h (.ref n) = true := by
  unfold isLst
  dsimp only
  rw [e]
theorem src_at {h : Hp} {n i : Nat} {vs : List V} {v : V} (e : h[n]? = some (.list vs)) (hv : vs[i]? = some v) : srcAt h i (.ref n) = some (some v) := by
  obtain ⟨hi, zz⟩ := List.getElem?_eq_some_iff.mp hv
  unfold srcAt
  dsimp only
  rw [e]
  dsimp only
  rw [if_pos (Nat.le_of_lt ‹_›), hv]
theorem src_end {h : Hp} {n : Nat} {vs : List V} (e : h[n]? = some (.list vs)) : srcAt h vs.length (.ref n) = some none := by
  unfold srcAt
  dsimp only
  rw [e]
  dsimp only
  rw [if_pos (Nat.le_refl _), List.getElem?_eq_none (Nat.le_refl _)]
theorem len_list {h : Hp} {n : Nat} {vs : List V} (e : h[n]? = some (.list vs)) (hl : vs.length ≤ LIM) : biV h .len [.ref n] = some (.int vs.length) := by
  show (match h[n]? with | some (.list vs) => biL .len vs | _ => none) = _
  rw [e]
  exact if_pos hl
theorem strs_map {α : Type} (f : α → List Nat) : ∀ (l : List α), strsOf (l.map fun a => .str (f a)) = some (l.map f)
  | [] => rfl
  | a :: l => by
    show (strsOf (l.map fun a => .str (f a))).map (f a :: ·) = _
    rw [strs_map f l]; rfl
theorem join_of {h : Hp} {n : Nat} {vs : List V} {ls : List (List Nat)} (e : h[n]? = some (.list vs)) (hs : strsOf vs = some ls) (hl : ls.flatten.length ≤ LIM) : strMeth h [] 145 [.ref n] = some (.str ls.flatten) := by
  show (match h[n]? with
      | some (O.list vs) => (strsOf vs).bind fun ls => if ls.flatten.length ≤ LIM then some (V.str ls.flatten) else none
      | _ => none) = _
  rw [e]
  dsimp only
  rw [hs]
  exact if_pos hl
theorem ldrop {α : Type} {t r : List α} {i : Nat} {c : α} (e : t.drop i = c :: r) : t[i]? = some c ∧ t.drop (i + 1) = r ∧ i < t.length := by
  have hi : i < t.length := by
    by_cases h : i < t.length
    · exact h
    · rw [List.drop_eq_nil_of_le (by omega)] at e; cases e
  rw [List.drop_eq_getElem_cons hi] at e
  injection e with e1 e2
  exact ⟨by rw [List.getElem?_eq_getElem hi, e1], e2, hi⟩
structure Sp where
  txt : List Nat
  val : List Nat
  G : O → Prop
inductive DP where | t (s : List Nat) | p (sp : Sp)
noncomputable def DP.ctorIdx (x : DP) : Nat := @DP.casesOn (fun zz => Nat) x (fun zz => 0) (fun zz => 1)
noncomputable def DP.part : DP → Part
  | .t s => (tTXT, s)
  | .p sp => (tPATH, sp.txt)
noncomputable def DP.shown : DP → List Nat
  | .t s => s
  | .p sp => [60] ++ sp.txt ++ [62]
noncomputable def DP.asked : List DP → List V
  | [] => []
  | .t _ :: r => DP.asked r
  | .p sp :: r => .str sp.txt :: DP.asked r
noncomputable abbrev dpv (p : DP) : V := tupv p.part
section
variable {d Tn c A D : Nat} {h : Hp} {Q : QV} {E : QE}
structure Tell (h : Hp) (Tn c A : Nat) : Prop where
  p : ∃ cs, h[Tn]? = some (.clos 0 cs) ∧ lk 173 cs = some c ∧ h[c]? = some (.cell (some (.ref A)))
theorem Tell.ex {S : Nat → Prop} {h h' : Hp} (t : Tell h Tn c A) (x : Ex S h h') (hS : ∀ j, S j → ∃ vs, h[j]? = some (.list vs)) : Tell h' Tn c A := by
  obtain ⟨cs, e, l, f⟩ := t
  refine ⟨cs, x _ _ e fun q => ?_, l, x _ _ f fun q => ?_⟩
  · obtain ⟨vs, q⟩ := hS _ q
    rw [e] at q; cases q
  · obtain ⟨vs, q⟩ := hS _ q
    rw [f] at q; cases q
theorem Tell.old {h h' : Hp} (t : Tell h Tn c A) (x : Old h h') : Tell h' Tn c A := by
  obtain ⟨cs, e, l, f⟩ := t
  exact ⟨cs, x _ _ e, l, x _ _ f⟩
theorem c_tell {x : List Nat} {as : List V} (hd : d < 60) (ht : Tell h Tn c A) (ha : h[A]? = some (.list as)) (hl : as.length ≤ LIM) (hx : x.length ≤ 1000) (q : ∀ h', h'[A]? = some (.list (as ++ [.str x])) → Ex (· = A) h h' → Q (.str ([60] ++ x ++ [62])) h') : Wc d (.ref Tn) [.str x] h Q E := by
  obtain ⟨cs, e, l, f⟩ := ht
  refine Wc.clos e rfl hd rfl rfl ?_
  refine OkO.is c l ⟨.ref A, f, ?_⟩
  repeat walk_at "sb"
  refine AppO.go ha hl fun h1 k1 x1 => ?_
  repeat walk_at "sb"
  refine OkO.is _ (add_of (by simp [LIM]; exact om5 ‹_› rfl)) ?_
  repeat walk_at "sb"
  refine OkO.is _ (add_of (by simp [LIM]; exact om4 ‹_› rfl)) ?_
  exact q h1 k1 x1
theorem fill_loop {ds : List DP} {F : Nat} {N B C : QL} {Rt : QV} (hd : d < 50) (DA : D ≠ A) (DF : D ≠ F) (AF : A ≠ F) (hlen : ds.length ≤ 1000) : ∀ (r : List DP) (i : Nat) (as : List V) (acc : List DP) (l : List (Nat × V)) (h : Hp), ds.drop i = r → i ≤ ds.length → acc.length = i → as.length ≤ 1000 + i → (∀ p ∈ r, ∀ sp, p = DP.p sp → sp.txt.length ≤ 1000) → h[D]? = some (.list (ds.map dpv)) → h[A]? = some (.list as) → h[F]? = some (.list (acc.map fun p => .str p.shown)) → Tell h Tn c A → lk 76 l = some (.ref F) → lk 143 l = some (.ref Tn) →
    (∀ l' h', lk 76 l' = some (.ref F) → h'[A]? = some (.list (as ++ DP.asked r)) → h'[F]? = some (.list ((acc ++ r).map fun p => .str p.shown)) → Ex (fun j => j = A ∨ j = F) h h' → N l' h') → Wfor (.tup [.name 69, .name 144]) (.ref D) i [S.expr (T.meth (T.var 76) 81 [T.ite (T.cmp (Cop.eq) (T.var 69) (T.str [116, 101, 120, 116])) (T.var 144) (T.call (T.var 143) [T.var 144])])] l [] d h N B C Rt E := by
  intro r
  induction r with
  | nil =>
    intro i as acc l h e hile hi hal hsp hD hA hF ht h76 h143 k
    have hle : ds.length ≤ i := List.drop_eq_nil_iff.mp e
    have hi2 : i = ds.length := by exact Nat.le_antisymm ‹_› ‹_›
    refine Wfor.stop ?_ (k l h h76 (by rw [hA, DP.asked, List.append_nil]) (by rw [hF, List.append_nil]) Ex.refl)
    have := src_end hD
    rw [List.length_map, ← hi2] at this
    exact this
  | cons p r ih =>
    intro i as acc l h e hile hi hal hsp hD hA hF ht h76 h143 k
    obtain ⟨g1, g2, g3⟩ := ldrop e
    have tF : ∀ {h1 h2 : Hp} {vs : List V}, h1[F]? = some (.list vs) → Ex (· = F) h1 h2 → Tell h1 Tn c A → Tell h2 Tn c A := fun e x t => t.ex x fun j q => ⟨_, q ▸ e⟩
    refine Wfor.step (src_at hD (by rw [List.getElem?_map, g1]; rfl)) rfl ?_
    repeat walk_at "sb"
    cases p with
    | t s =>
      refine Br.t rfl ?_
      repeat walk_at "sb"
      refine AppO.go hF (by rw [List.length_map]; unfold LIM; omega) fun h1 k1 x1 => ?_
      refine ih (i + 1) as (acc ++ [.t s]) _ h1 g2 g3 (by simp [hi]) (by omega) (fun p hp => hsp p (.tail _ hp)) (x1 _ _ hD DF) (x1 _ _ hA AF) (by rw [k1]; simp only [List.map_append]; rfl) (tF hF x1 ht) (by walk_at "lk") (by walk_at "lk") fun l' h' a76 aA aF x => ?_
      exact k l' h' a76 aA (by simpa using aF) fun j o e n => x _ _ (x1 _ _ e fun q => n (.inr q)) n
    | p sp =>
      refine Br.f rfl ?_
      repeat walk_at "sb"
      refine OkB.mk (by obtain ⟨cs, e, zz⟩ := ht; exact canCall_clos e) ?_
      refine c_tell (by walk_at "dd") ht hA (by unfold LIM; omega) (hsp _ (.head _) sp rfl) fun h1 k1 x1 => ?_
      refine AppO.go (x1 _ _ hF AF.symm) (by rw [List.length_map]; unfold LIM; omega) fun h2 k2 x2 => ?_
      refine ih (i + 1) (as ++ [.str sp.txt]) (acc ++ [.p sp]) _ h2 g2 g3 (by simp [hi]) (by simp; omega) (fun p hp => hsp p (.tail _ hp)) (x2 _ _ (x1 _ _ hD DA) DF) (x2 _ _ k1 AF) (by rw [k2]; simp only [List.map_append]; rfl) (tF (x1 _ _ hF AF.symm) x2 (ht.ex x1 fun j q => ⟨_, q ▸ hA⟩)) (by walk_at "lk") (by walk_at "lk") fun l' h' a76 aA aF x => ?_
      exact k l' h' a76 (by rw [aA]; simp [DP.asked]) (by simpa using aF) fun j o e n => x _ _ (x2 _ _ (x1 _ _ e fun q => n (.inl q)) fun q => n (.inr q)) n
theorem c_filled {ds : List DP} {as : List V} (hd : d + 1 < 50) (hlen : ds.length ≤ 1000) (DA : D ≠ A) (hal : as.length ≤ 1000) (hsp : ∀ p ∈ ds, ∀ sp, p = DP.p sp → sp.txt.length ≤ 1000) (hsh : (ds.map DP.shown).flatten.length ≤ LIM) (hD : h[D]? = some (.list (ds.map dpv))) (hA : h[A]? = some (.list as)) (ht : Tell h Tn c A)
    (q : ∀ h', h'[A]? = some (.list (as ++ DP.asked ds)) → Ex (· = A) h h' → Q (.str (ds.map DP.shown).flatten) h') : Wc d (.top 777) [.ref D, .ref Tn] h Q E := by
  refine Wc.fn0 (om0 ‹_› rfl) rfl rfl rfl rfl ?_
  repeat walk_at "sb"
  refine New.go fun F h1 f1 k1 o1 => ?_
  repeat walk_at "sb"
  refine OkB.mk (isSrc_list (o1 _ _ hD)) ?_
  have DF : D ≠ F := ne_new hD f1
  have AF : A ≠ F := ne_new hA f1
  refine fill_loop (by walk_at "dd") DA DF AF hlen ds 0 as [] _ h1 rfl (Nat.zero_le _) rfl ‹_› hsp (o1 _ _ hD) (o1 _ _ hA) k1 (ht.old o1) (by walk_at "lk") (by walk_at "lk") fun l2 h2 a76 aA aF x2 => ?_
  repeat walk_at "sb"
  rw [List.nil_append] at aF
  refine OkO.is _ (join_of aF (strs_map DP.shown ds) hsh) ?_
  exact q h2 aA fun j o e n => x2 _ _ (o1 _ _ e) fun q => by
    rcases q with q | q
    · exact n q
    · exact ne_new e f1 q
noncomputable def RP (h : Hp) : DP → V → Prop
  | .t s, v => v = .tup [.str tTXT, .str s]
  | .p sp, v => ∃ n o, v = .tup [.str tPATH, .ref n] ∧ h[n]? = some o ∧ sp.G o
noncomputable abbrev RPs (h : Hp) (ps : List DP) (vs : List V) : Prop := All2 (RP h) ps vs
theorem RP.ex {S : Nat → Prop} {h h' : Hp} (x : Ex S h h') (hS : ∀ j, S j → ∃ vs, h[j]? = some (.list vs)) : ∀ {p : DP} {v : V}, (∀ sp, p = .p sp → ∀ o, sp.G o → NoList o) → RP h p v → RP h' p v
  | .t s, v, _, e => e
  | .p sp, v, hn, ⟨n, o, e, f, g⟩ => ⟨n, o, e, x _ _ f fun q => by
      obtain ⟨vs, q⟩ := hS _ q
      rw [f] at q
      cases q
      exact hn sp rfl _ g vs rfl, g⟩
theorem RPs.ex {S : Nat → Prop} {h h' : Hp} (x : Ex S h h') (hS : ∀ j, S j → ∃ vs, h[j]? = some (.list vs)) {ps : List DP} {vs : List V} (hn : ∀ p ∈ ps, ∀ sp, p = .p sp → ∀ o, sp.G o → NoList o) (w : RPs h ps vs) : RPs h' ps vs :=
  All2.mono (fun p hp zz y => y.ex x hS (hn p hp)) w
structure Rd (sp : Sp) : Prop where
  w : ∃ ws, Words sp.txt ws ∧ Shape ws sp.G
  l : sp.txt.length ≤ 1000
  n : ∀ o, sp.G o → NoList o
theorem read_loop {ds : List DP} {F : Nat} {N B C : QL} {Rt : QV} (hd : d + 22 < 60) (DF : D ≠ F) (hlen : ds.length ≤ 1000) (hrd : ∀ p ∈ ds, ∀ sp, p = DP.p sp → Rd sp) : ∀ (r : List DP) (i : Nat) (acc : List DP) (vs : List V) (l : List (Nat × V)) (h : Hp), ds.drop i = r → i ≤ ds.length → acc.length = i → acc ++ r = ds → h[D]? = some (.list (ds.map dpv)) → h[F]? = some (.list vs) → RPs h acc vs → lk 76 l = some (.ref F) →
    (∀ l' h' vs', lk 76 l' = some (.ref F) → h'[F]? = some (.list vs') → RPs h' ds vs' → Ex (· = F) h h' → N l' h') → Wfor (.tup [.name 69, .name 144]) (.ref D) i [S.expr (T.meth (T.var 76) 81 [T.tup [T.var 69, T.ite (T.cmp (Cop.eq) (T.var 69) (T.str [116, 101, 120, 116])) (T.var 144) (T.call (T.glob 138) [T.var 144])]])] l [] d h N B C Rt E := by
  intro r
  induction r with
  | nil =>
    intro i acc vs l h e hile hi ha hD hF hr h76 k
    have hle : ds.length ≤ i := List.drop_eq_nil_iff.mp e
    have hi2 : i = ds.length := by exact Nat.le_antisymm ‹_› ‹_›
    rw [List.append_nil] at ha
    refine Wfor.stop ?_ (k l h vs h76 hF (ha ▸ hr) Ex.refl)
    have := src_end hD
    rw [List.length_map, ← hi2] at this
    exact this
  | cons p r ih =>
    intro i acc vs l h e hile hi ha hD hF hr h76 k
    obtain ⟨g1, g2, g3⟩ := ldrop e
    have hin : ∀ p' ∈ acc, p' ∈ ds := fun p' hp => by rw [← ha]; exact List.mem_append_left _ hp
    have hn : ∀ p ∈ acc, ∀ sp, p = DP.p sp → ∀ o, sp.G o → NoList o := fun p hp sp e => (hrd p (hin p hp) sp e).n
    have hpin : p ∈ ds := by rw [← ha]; exact List.mem_append_right _ (.head _)
    have hvl : vs.length ≤ LIM := by rw [← hr.len]; unfold LIM; omega
    refine Wfor.step (src_at hD (by rw [List.getElem?_map, g1]; rfl)) rfl ?_
    repeat walk_at "sb"
    cases p with
    | t s =>
      refine Br.t rfl ?_
      repeat walk_at "sb"
      refine AppO.go hF hvl fun h1 k1 x1 => ?_
      refine ih (i + 1) (acc ++ [.t s]) _ _ h1 g2 g3 (by simp [hi]) (by simpa using ha) (x1 _ _ hD DF) k1 (All2.app (R := RP h1) (a := .t s) rfl (hr.ex x1 (fun j q => ⟨_, q ▸ hF⟩) hn)) (by walk_at "lk") fun l' h' vs' a76 aF ar x => ?_
      exact k l' h' vs' a76 aF ar (x1.trans x)
    | p sp =>
      obtain ⟨⟨ws, hw, hs⟩, hl, hg⟩ := hrd _ hpin sp rfl
      refine Br.f rfl ?_
      repeat walk_at "sb"
      refine c_parse_path (t := sp.txt) (by walk_at "dd") (by unfold LIM; exact om4 ‹_› rfl) hw hs fun n o h1 k1 g o1 => ?_
      refine AppO.go (o1 _ _ hF) hvl fun h2 k2 x2 => ?_
      have nF : n ≠ F := ne_of k1 (o1 _ _ hF) (hg _ g _)
      refine ih (i + 1) (acc ++ [.p sp]) _ _ h2 g2 g3 (by simp [hi]) (by simpa using ha) (x2 _ _ (o1 _ _ hD) DF) k2 (All2.app (R := RP h2) (a := .p sp) ⟨n, o, rfl, x2 _ _ k1 nF, g⟩ ((hr.ex (S := fun zz => False) o1.ex (fun j q => q.elim) hn).ex x2 (fun j q => ⟨_, q ▸ (o1 _ _ hF)⟩) hn)) (by walk_at "lk") fun l' h' vs' a76 aF ar x => ?_
      exact k l' h' vs' a76 aF ar (o1.ex.trans (x2.trans x))
theorem c_read_avt {t : List Nat} {es : List El} {ds : List DP} (hd : d + 23 < 60) (hl : t.length ≤ 4000) (ok : ∀ e ∈ es, El.ok e) (e : t = wr es) (hp : parts es = ds.map DP.part) (hlen : ds.length ≤ 1000) (hrd : ∀ p ∈ ds, ∀ sp, p = DP.p sp → Rd sp) (q : ∀ n h' vs, h[n]? = none → h'[n]? = some (.list vs) → RPs h' ds vs → Old h h' → Q (.ref n) h') : Wc d (.top 784) [.str t] h Q E := by
  refine Wc.fn0 (om0 ‹_› rfl) rfl rfl rfl rfl ?_
  repeat walk_at "sb"
  refine New.go fun F h1 f1 k1 o1 => ?_
  repeat walk_at "sb"
  refine c_split_avt (by walk_at "dd") hl ok e fun D h2 f2 k2 o2 => ?_
  repeat walk_at "sb"
  have DF : D ≠ F := (ne_new k1 f2).symm
  have k2' : h2[D]? = some (.list (ds.map dpv)) := by
    rw [k2, hp, List.map_map]; rfl
  refine read_loop (by walk_at "dd") DF hlen hrd ds 0 [] [] _ h2 rfl (Nat.zero_le _) rfl rfl k2' (o2 _ _ k1) trivial (by walk_at "lk") fun l3 h3 vs a76 aF ar x3 => ?_
  repeat walk_at "sb"
  exact q F h3 vs f1 aF ar (old_of f1 (o1.trans o2) x3)
end
end Mine.Internal
end

section
open PySem
set_option autoImplicit false
namespace Mine.Internal
structure Src (h : Hp) (k : Nat) : Prop where
  p : ∃ a b : Int, h[k]? = some (.list [.int a, .int b])
section
variable {d k : Nat} {h : Hp} {Q : QV} {E : QE}
theorem Src.ne {n : Nat} (s : Src h k) (e : h[n]? = none) : k ≠ n := by
  obtain ⟨a, b, s⟩ := s
  exact ne_new s e
theorem Src.old {h' : Hp} (s : Src h k) (o : Old h h') : Src h' k := by
  obtain ⟨a, b, s⟩ := s
  exact ⟨a, b, o _ _ s⟩
theorem Src.ex {S : Nat → Prop} {h' : Hp} (s : Src h k) (x : Ex S h h') (n : ¬ S k) : Src h' k := by
  obtain ⟨a, b, s⟩ := s
  exact ⟨a, b, x _ _ s n⟩
theorem fmod_nat (a : Int) {top : Nat} (ht : 0 < top) : ∃ r : Nat, a.fmod top = r ∧ r < top := by
  have h1 := Int.fmod_nonneg_of_pos a (show (0 : Int) < top by omega)
  have h2 := Int.fmod_lt_of_pos a (show (0 : Int) < top by omega)
  exact ⟨(a.fmod top).toNat, by omega, by omega⟩
theorem c_take {top : Nat} (hd : d < 60) (ht : 0 < top) (hb : top < 1073741824) (hs : Src h k) (q : ∀ (r : Nat) h', r < top → Src h' k → Ex (· = k) h h' → Q (.int r) h') : Wc d (.top 798) [.ref k, .int top] h Q E := by
  obtain ⟨a, b, hs⟩ := hs
  refine Wc.fn0 hd rfl rfl rfl rfl ?_
  repeat walk_at "sb"
  refine OkO.is _ (idx_list (i := 0) hs rfl (Nat.le_of_ble_eq_true rfl)) ?_
  repeat walk_at "sb"
  refine Br.by (fun e => ?_) (fun e => ?_)
  · repeat walk_at "sb"
    refine OkO.is _ (idx_list (i := 0) hs rfl (by simp [LIM])) ?_
    repeat walk_at "sb"
    refine OkO.is _ (mod_of (h := h) (by omega)) ?_
    obtain ⟨r, e1, e2⟩ := fmod_nat a ht
    rw [e1]
    repeat walk_at "sb"
    refine OkO.is _ (idx_list (i := 0) hs rfl (Nat.le_of_ble_eq_true rfl)) ?_
    repeat walk_at "sb"
    refine OkO.is _ (fdiv_of (h := h) (by omega) (by omega)) ?_
    repeat walk_at "sb"
    refine SetI.go (j := 0) hs rfl (Nat.zero_le _) fun h1 k1 x1 => ?_
    repeat walk_at "sb"
    exact q r h1 e2 ⟨_, _, k1⟩ x1
  · repeat walk_at "sb"
    refine OkO.is _ (idx_list (i := 1) hs rfl (by simp [LIM])) ?_
    repeat walk_at "sb"
    refine SetI.go (j := 1) hs rfl (Nat.le_of_ble_eq_true rfl) fun h1 k1 x1 => ?_
    have h3 := Int.fmod_nonneg_of_pos (b * 39373 + 7) (show (0 : Int) < 2147483647 by omega)
    have h4 := Int.fmod_lt_of_pos (b * 39373 + 7) (show (0 : Int) < 2147483647 by omega)
    generalize (b * 39373 + 7).fmod 2147483647 = b' at k1 h3 h4
    repeat walk_at "sb"
    refine OkO.is (V.int b') (idx_list (i := 1) k1 rfl (by simp [LIM])) ?_
    repeat walk_at "sb"
    refine OkO.is (V.int b') (idx_list (i := 1) k1 rfl (by simp [LIM])) ?_
    repeat walk_at "sb"
    refine OkO.is _ (mul_of (by omega)) ?_
    repeat walk_at "sb"
    refine OkO.is _ (mod_of (h := h) (by omega)) ?_
    obtain ⟨r, e1, e2⟩ := fmod_nat (((b' * b').fmod 2147483629).fdiv 32) ht
    rw [e1]
    exact q r h1 e2 ⟨_, _, k1⟩ x1
theorem c_one {m : Nat} {vs : List V} (hd : d + 1 < 60) (hs : Src h k) (hm : h[m]? = some (.list vs)) (mk : m ≠ k) (h0 : 0 < vs.length) (hl : vs.length ≤ 1000) (q : ∀ v h', v ∈ vs → Src h' k → Ex (· = k) h h' → Q v h') : Wc d (.top 805) [.ref k, .ref m] h Q E := by
  refine Wc.fn0 (om0 ‹_› rfl) rfl rfl rfl rfl ?_
  repeat walk_at "sb"
  refine OkO.is _ (len_list hm (by exact om4 ‹_› rfl)) ?_
  repeat walk_at "sb"
  refine c_take (by walk_at "dd") h0 (by omega) hs fun r h1 lt s1 x1 => ?_
  refine OkO.is _ (idx_list (x1 _ _ hm mk) (List.getElem?_eq_getElem lt) (by exact om4 ‹_› rfl)) ?_
  exact q _ h1 (List.getElem_mem lt) s1 x1
theorem c_pool {vs : List V} (hd : d < 60) (hi : ∀ v ∈ vs, ∃ i : Int, v = .int i) (hl : vs.length ≤ 1000) (q : ∀ n h', h[n]? = none → Src h' n → Old h h' → Q (.ref n) h') : Wc d (.top 791) [.lst vs, .int 0] h Q E := by
  refine Wc.fn0 hd rfl rfl rfl rfl ?_
  repeat walk_at "sb"
  have hlen : biV h .len [.lst vs] = some (.int vs.length) := if_pos (by unfold LIM; exact om4 ‹_› rfl)
  refine OkO.is _ hlen ?_
  repeat walk_at "sb"
  refine Br.by (fun e => ?_) (fun e => ?_)
  · cases vs with
    | nil => simp at e
    | cons v vs =>
      obtain ⟨i, rfl⟩ := hi v (.head _)
      repeat walk_at "sb"
      refine OkO.is _ (mul_of (by split <;> decide)) ?_
      repeat walk_at "sb"
      exact New.go fun n h1 f1 k1 o1 => q n h1 f1 ⟨_, _, k1⟩ o1
  · repeat walk_at "sb"
    exact New.go fun n h1 f1 k1 o1 => q n h1 f1 ⟨_, _, k1⟩ o1
end
end Mine.Internal
end

section
open PySem
set_option autoImplicit false
namespace Mine.Internal
theorem stripL_id {c : Nat} : ∀ {l : List Nat}, l.head? ≠ some c → stripL c l = l
  | [], _ => rfl
  | d :: r, h => by
    unfold stripL
    rw [nbeq_ne (fun e => h (by rw [e]; rfl))]
    rfl
theorem strip_id {c : Nat} {l : List Nat} (h1 : l.head? ≠ some c) (h2 : l.getLast? ≠ some c) : strip1 c l = l := by
  unfold strip1
  rw [stripL_id h1, stripL_id (by rw [List.head?_reverse]; exact h2), List.reverse_reverse]
theorem scanQ_app : ∀ (a b : List Nat) (q : Option Nat), scanQ q (a ++ b) = (scanQ q a).bind fun q' => scanQ q' b
  | [], b, none => rfl
  | [], b, some _ => rfl
  | c :: a, b, some q => by
    show (if c = q then scanQ none (a ++ b) else scanQ (some q) (a ++ b)) = (if c = q then scanQ none a else scanQ (some q) a).bind _
    split
    · exact scanQ_app a b none
    · exact scanQ_app a b (some q)
  | c :: a, b, none => by
    show (if c = 39 ∨ c = 34 then scanQ (some c) (a ++ b) else if c = 125 ∨ c = 123 then none else scanQ none (a ++ b)) = (if c = 39 ∨ c = 34 then scanQ (some c) a else if c = 125 ∨ c = 123 then none else scanQ none a).bind _
    split
    · exact scanQ_app a b _
    · split
      · rfl
      · exact scanQ_app a b none
theorem scanQ_plain : ∀ {l : List Nat}, (∀ c ∈ l, c ≠ 39 ∧ c ≠ 34 ∧ c ≠ 125 ∧ c ≠ 123) → scanQ none l = some none
  | [], _ => rfl
  | c :: l, h => by
    have := h c (.head _)
    change (if c = 39 ∨ c = 34 then scanQ (some c) l else if c = 125 ∨ c = 123 then none else scanQ none l) = _
    rw [if_neg (by omega), if_neg (by omega)]
    exact scanQ_plain fun c hc => h c (.tail _ hc)
theorem dg_range {c : Nat} (h : dg c = true) : 48 ≤ c ∧ c ≤ 57 := by
  simp [dg, List.contains_eq_mem] at h
  omega
structure SpOk (sp : Sp) : Prop where
  rd : Rd sp
  sc : scanQ none sp.txt = some none
  ck1 : sp.txt.take 1 = [39] ∨ sp.txt.take 1 = [34] → ∀ o, sp.G o → o = .inst 109 [(26, .str sp.val)]
  ck2 : strip1 32 sp.txt = sp.val → ∀ o, sp.G o → o = .inst 137 [(26, .tup [.int (numOf sp.val), .int 1])] ∧ sp.val ≠ [] ∧ sp.val.length ≤ 64 ∧ sp.val.all isDigit = true
  len : sp.txt.length ≤ 60
  vlen : sp.val.length ≤ 60
structure Lit (X : List Nat) (c : Nat) : Prop where
  hc : c = 39 ∨ c = 34
  hX : X.contains c = false
  len : X.length ≤ 7
  sc : scanQ none (c :: (X ++ [c])) = some none
noncomputable def litSp (X : List Nat) (c : Nat) : Sp := ⟨c :: (X ++ [c]), X, (· = .inst 109 [(26, .str X)])⟩
theorem sp_of {c : Nat} (h : c = 39 ∨ c = 34) : c ≠ 32 := by omega
theorem lit_ok {X : List Nat} {c : Nat} (l : Lit X c) : SpOk (litSp X c) where
  rd := ⟨⟨_, Words.scan 0 _ _ (.cons 0 _ [] _ [] (St.lit c X [] l.hc l.hX) .nil), .lit X⟩, by have := l.len; simp [litSp]; exact om4 ‹_› rfl, fun o e vs q => by
    rw [show o = .inst 109 [(26, .str X)] from e] at q; cases q⟩
  sc := l.sc
  ck1 := fun zz o e => e
  ck2 := fun e => by
    exfalso
    have h1 : strip1 32 (c :: (X ++ [c])) = c :: (X ++ [c]) := strip_id (by simp; exact sp_of l.hc) (by rw [← List.cons_append, List.getLast?_append]; simp; exact sp_of l.hc)
    have h2 : strip1 32 (c :: (X ++ [c])) = X := e
    rw [h1] at h2
    have := congrArg List.length h2
    simp at this
    omega
  len := by have := l.len; simp [litSp]; exact om4 ‹_› rfl
  vlen := by have := l.len; simp [litSp]; exact om4 ‹_› rfl
structure Dig (X : List Nat) : Prop where
  a : X.all dg = true
  n : X ≠ []
  l : X.length ≤ 4
theorem Dig.mem {X : List Nat} (h : Dig X) {c : Nat} (hc : c ∈ X) : 48 ≤ c ∧ c ≤ 57 := dg_range (List.all_eq_true.mp h.a c hc)
theorem Dig.head {X : List Nat} (h : Dig X) : ∃ c r, X = c :: r ∧ 48 ≤ c ∧ c ≤ 57 := by
  cases X with
  | nil => exact absurd rfl h.n
  | cons c r => exact ⟨c, r, rfl, h.mem (.head _)⟩
theorem Dig.last {X : List Nat} (h : Dig X) : ∃ c, X.getLast? = some c ∧ 48 ≤ c ∧ c ≤ 57 := by
  refine ⟨X.getLast h.n, List.getLast?_eq_some_getLast h.n, h.mem (List.getLast_mem h.n)⟩
theorem Dig.isDigit {X : List Nat} (h : Dig X) : X.all isDigit = true := List.all_eq_true.mpr fun c hc => dg_digit (List.all_eq_true.mp h.a c hc)
theorem digits_dig {n : Nat} (h : n < 1000) : Dig (digits n) := by
  have key : ∀ n < 1000, (digits n).all dg = true ∧ digits n ≠ [] ∧ (digits n).length ≤ 4 := by decide +kernel
  obtain ⟨a, b, c⟩ := key n h
  exact ⟨a, b, c⟩
noncomputable def numSp (s : Nat) (X : List Nat) : Sp := ⟨List.replicate s 32 ++ (X ++ [32]), X, (· = .inst 137 [(26, .tup [.int (numOf X), .int 1])])⟩
theorem num_ok {s : Nat} {X : List Nat} (hs : s ≤ 1) (hX : Dig X) : SpOk (numSp s X) where
  rd := ⟨⟨_, Words.scan s _ _ (.cons 1 _ [] _ [] (St.num X [32] hX.n hX.a (fun c r e => by cases e; exact ⟨rfl, by omega⟩)) .nil), .num X hX.a (by have := hX.l; exact om4 ‹_› rfl)⟩, by have := hX.l; simp [numSp]; omega, fun o e vs q => by
    rw [show o = .inst 137 [(26, .tup [.int (numOf X), .int 1])] from e] at q; cases q⟩
  sc := scanQ_plain fun c hc => by
    simp [numSp] at hc
    rcases hc with hc | hc | hc
    · omega
    · have := hX.mem hc; omega
    · omega
  ck1 := fun e => by
    exfalso
    obtain ⟨c, r, rfl, h1, h2⟩ := hX.head
    have : s = 0 ∨ s = 1 := by omega
    rcases this with rfl | rfl
    · simp [numSp] at e; omega
    · simp [numSp, List.replicate] at e
  ck2 := fun zz o e => ⟨e, hX.n, by have := hX.l; show X.length ≤ 64; exact om4 ‹_› rfl, hX.isDigit⟩
  len := by have := hX.l; simp [numSp]; omega
  vlen := by have := hX.l; show X.length ≤ 60; exact om4 ‹_› rfl
noncomputable def sumSp (s : Nat) (X Y Z : List Nat) : Sp := ⟨X ++ (List.replicate s 32 ++ 43 :: (List.replicate s 32 ++ Y)), Z, NoList⟩
theorem St.mk' {b : Bool} {c : Nat} {k : List Nat} (r : List Nat) (hk : k = if b then [111, 112, 101, 114, 97, 116, 111, 114] else [115, 105, 103, 110]) (hc : if b then c = 43 else c = 40 ∨ c = 41 ∨ c = 44) : St (c :: r) (k, [c]) r := by
  subst hk
  exact St.mark b c r hc
theorem sum_ok {s : Nat} {X Y Z : List Nat} (hs : s ≤ 1) (hX : Dig X) (hY : Dig Y) (hZ : Dig Z) : SpOk (sumSp s X Y Z) where
  rd := ⟨⟨_, Words.scan 0 _ _ (.cons s _ (43 :: (List.replicate s 32 ++ Y)) _ _ (St.num X _ hX.n hX.a (fun c r e => by
      have : s = 0 ∨ s = 1 := by omega
      rcases this with rfl | rfl <;> (cases e; exact ⟨rfl, by omega⟩)))
      (.cons s _ Y _ _ (St.mk' (b := true) _ rfl rfl) (.cons 0 _ [] _ _ (by
        have := St.num Y [] hY.n hY.a (fun c r e => by cases e)
        rwa [List.append_nil] at this) .nil))), .sum X Y hX.a (by have := hX.l; exact om4 ‹_› rfl) hY.a (by have := hY.l; exact om4 ‹_› rfl)⟩, by have := hX.l; have := hY.l; simp [sumSp]; omega, fun o e => e⟩
  sc := scanQ_plain fun c hc => by
    simp [sumSp] at hc
    rcases hc with hc | hc | hc | hc | hc
    · have := hX.mem hc; omega
    · omega
    · omega
    · omega
    · have := hY.mem hc; omega
  ck1 := fun e => by
    exfalso
    obtain ⟨c, r, rfl, h1, h2⟩ := hX.head
    simp [sumSp] at e; omega
  ck2 := fun e => by
    exfalso
    have h1 : strip1 32 (sumSp s X Y Z).txt = (sumSp s X Y Z).txt := by
      refine strip_id ?_ ?_
      · obtain ⟨c, r, rfl, h1, h2⟩ := hX.head
        simp [sumSp]; omega
      · obtain ⟨c, e, h1, h2⟩ := hY.last
        simp only [sumSp, List.getLast?_append, List.getLast?_cons, e]
        simp; omega
    rw [h1] at e
    have h2 : (43 : Nat) ∈ (sumSp s X Y Z).txt := by simp [sumSp]
    rw [e] at h2
    have := hZ.mem h2
    omega
  len := by have := hX.l; have := hY.l; simp [sumSp]; omega
  vlen := by have := hZ.l; show Z.length ≤ 60; exact om4 ‹_› rfl
noncomputable def ccTxt (X : List Nat) (c : Nat) (Y : List Nat) (e : Nat) : List Nat := CC ++ 40 :: (c :: (X ++ c :: (44 :: 32 :: (e :: (Y ++ e :: [41])))))
noncomputable def ccSp (X : List Nat) (c : Nat) (Y : List Nat) (e : Nat) : Sp := ⟨ccTxt X c Y e, X ++ Y, NoList⟩
theorem cc_ok {X Y : List Nat} {c e : Nat} (l : Lit X c) (m : Lit Y e) : SpOk (ccSp X c Y e) where
  rd := ⟨⟨_, Words.cc _ _ (.cons 0 _ _ _ _ (St.mk' (b := false) _ rfl (.inl rfl)) (.cons 0 _ _ _ _ (St.lit c X _ l.hc l.hX) (.cons 1 _ _ _ _ (St.mk' (b := false) _ rfl (.inr (.inr rfl))) (.cons 0 _ _ _ _ (St.lit e Y _ m.hc m.hX) (.cons 0 _ [] _ _ (St.mk' (b := false) _ rfl (.inr (.inl rfl))) .nil))))), .cc X Y⟩, by have := l.len; have := m.len; simp [ccSp, ccTxt, CC]; omega, fun o e => e⟩
  sc := by
    have h1 : ccTxt X c Y e = CC ++ ([40] ++ ((c :: (X ++ [c])) ++ ([44, 32] ++ ((e :: (Y ++ [e])) ++ [41])))) := by simp [ccTxt]
    show scanQ none (ccTxt X c Y e) = some none
    rw [h1, scanQ_app, show scanQ none CC = some none from by decide]
    show scanQ none ([40] ++ _) = _
    rw [scanQ_app, show scanQ none [40] = some none from by decide]
    show scanQ none ((c :: (X ++ [c])) ++ _) = _
    rw [scanQ_app, l.sc]
    show scanQ none ([44, 32] ++ _) = _
    rw [scanQ_app, show scanQ none [44, 32] = some none from by decide]
    show scanQ none ((e :: (Y ++ [e])) ++ _) = _
    rw [scanQ_app, m.sc]
    rfl
  ck1 := fun e => by
    exfalso
    simp [ccSp, ccTxt, CC] at e
  ck2 := fun q => by
    exfalso
    have h1 : strip1 32 (ccSp X c Y e).txt = (ccSp X c Y e).txt := by
      refine strip_id ?_ ?_
      · simp [ccSp, ccTxt, CC]
      · simp only [ccSp, ccTxt, List.getLast?_append, List.getLast?_cons, List.getLast?_nil]
        simp
    rw [h1] at q
    have := congrArg List.length q
    simp [ccSp, ccTxt, CC] at this
    omega
  len := by have := l.len; have := m.len; simp [ccSp, ccTxt, CC]; omega
  vlen := by have := l.len; have := m.len; simp [ccSp]; omega
end Mine.Internal
end

section
open PySem
set_option autoImplicit false
set_option maxRecDepth 4000
namespace Mine.Internal
theorem str_of {h : Hp} {n : Nat} (hn : n < 1000000) : biV h .str [.int n] = some (.str (digits n)) := by
  show (if 0 ≤ (n : Int) ∧ (n : Int).toNat < 1000000 then some (V.str (digits (n : Int).toNat)) else none) = _
  rw [if_pos ⟨Int.natCast_nonneg n, hn⟩]
  rfl
theorem str_of2 {h : Hp} {a b : Nat} (hn : a + b < 1000000) : biV h .str [.int ((a : Int) + (b : Int))] = some (.str (digits (a + b))) := str_of (n := a + b) hn
section
variable {d k : Nat} {h : Hp} {Q : QV} {E : QE}
theorem lit_dec {X : List Nat} {c : Nat} (h : ((c == 39 || c == 34) && (!X.contains c && (Nat.ble X.length 7 && decide (scanQ none (c :: (X ++ [c])) = some none)))) = true) : Lit X c := by
  simp only [Bool.and_eq_true, Bool.or_eq_true, beq_iff_eq, Bool.not_eq_true', decide_eq_true_eq] at h
  exact ⟨h.1, h.2.1, Nat.le_of_ble_eq_true h.2.2.1, h.2.2.2⟩
theorem old_ex {n : Nat} {h1 h2 : Hp} (o : Old h h1) (x : Ex (· = k) h1 h2) : Ex (· = k) h h2 := fun j v e n => x j v (o j v e) n
theorem c_literal' (hd : d + 2 < 60) (hs : Src h k) (q : ∀ X c h', Lit X c → Src h' k → Ex (· = k) h h' → Q (.tup [.str (c :: (X ++ [c])), .str X]) h') : Wc d (.top 812) [.ref k] h Q E := by
  refine Wc.fn0 (om0 ‹_› rfl) rfl rfl rfl rfl ?_
  repeat walk_at "sb"
  refine New.go fun n h1 f1 k1 o1 => ?_
  refine c_one (by walk_at "dd") (hs.old o1) k1 (hs.ne f1).symm (Nat.le_of_ble_eq_true rfl) (Nat.le_of_ble_eq_true rfl) fun v h2 hv s2 x2 => ?_
  have x := old_ex (n := n) o1 x2
  simp only [List.mem_cons, List.not_mem_nil, or_false] at hv
  have two : ∀ X : List Nat, Lit X 39 → Lit X 34 → wpe (T.call (T.glob 157) [T.var 155, T.lst [T.str [39], T.str [34]]]) [(155, .ref k), (70, .str X)] [] (d + 1) h2 (fun v h => @Option.rec (Lc × Hp) (fun zz => Prop) False (fun p => (fun l h => wpxs [S.ret (some (T.tup [T.bin (Bop.add) (T.bin (Bop.add) (T.var 91) (T.var 70)) (T.var 91), T.var 70]))] l [] (d + 1) h (fun zz h => Q .none h) noL noL Q E) p.1 p.2) (asgT ⟨[(155, .ref k), (70, .str X)], [], d + 1⟩ h (.name 91) v)) E := by
    intro X l1 l2
    repeat walk_at "sb"
    refine New.go fun n3 h3 f3 k3 o3 => ?_
    refine c_one (by walk_at "dd") (s2.old o3) k3 (s2.ne f3).symm (Nat.le_of_ble_eq_true rfl) (Nat.le_of_ble_eq_true rfl) fun v h4 hv s4 x4 => ?_
    have hl := l1.len
    simp only [List.mem_cons, List.not_mem_nil, or_false] at hv
    have xx : Ex (· = k) h h4 := x.trans (old_ex (n := n3) o3 x4)
    rcases hv with rfl | rfl
    · repeat walk_at "sb"
      refine OkO.is _ (add_of (by simp [LIM]; exact om5 ‹_› rfl)) ?_
      repeat walk_at "sb"
      refine OkO.is _ (add_of (by simp [LIM]; exact om4 ‹_› rfl)) ?_
      repeat walk_at "sb"
      exact q X 39 h4 l1 s4 xx
    · repeat walk_at "sb"
      refine OkO.is _ (add_of (by simp [LIM]; exact om5 ‹_› rfl)) ?_
      repeat walk_at "sb"
      refine OkO.is _ (add_of (by simp [LIM]; exact om4 ‹_› rfl)) ?_
      repeat walk_at "sb"
      exact q X 34 h4 l2 s4 xx
  rcases hv with rfl | rfl | rfl | rfl | rfl | rfl | rfl
  · repeat walk_at "sb"
    refine Br.f rfl ?_
    repeat walk_at "sb"
    refine Br.f rfl ?_
    exact two [] (lit_dec rfl) (lit_dec rfl)
  · repeat walk_at "sb"
    refine Br.f rfl ?_
    repeat walk_at "sb"
    refine Br.f rfl ?_
    exact two [97] (lit_dec rfl) (lit_dec rfl)
  · repeat walk_at "sb"
    refine Br.f rfl ?_
    repeat walk_at "sb"
    refine Br.f rfl ?_
    exact two [125] (lit_dec rfl) (lit_dec rfl)
  · repeat walk_at "sb"
    refine Br.f rfl ?_
    repeat walk_at "sb"
    refine Br.f rfl ?_
    exact two [123, 98, 125] (lit_dec rfl) (lit_dec rfl)
  · repeat walk_at "sb"
    refine Br.f rfl ?_
    repeat walk_at "sb"
    refine Br.t rfl ?_
    repeat walk_at "sb"
    exact q [105, 116, 39, 115] 34 h2 (lit_dec rfl) s2 x
  · repeat walk_at "sb"
    refine Br.t rfl ?_
    repeat walk_at "sb"
    exact q [115, 97, 121, 32, 34, 123, 34] 39 h2 (lit_dec rfl) s2 x
  · repeat walk_at "sb"
    refine Br.f rfl ?_
    repeat walk_at "sb"
    refine Br.f rfl ?_
    exact two [120, 32, 121] (lit_dec rfl) (lit_dec rfl)
theorem c_expression (hd : d + 3 < 60) (hs : Src h k) (q : ∀ sp h', SpOk sp → Src h' k → Ex (· = k) h h' → Q (.tup [.str sp.txt, .str sp.val]) h') : Wc d (.top 819) [.ref k] h Q E := by
  refine Wc.fn0 (om0 ‹_› rfl) rfl rfl rfl rfl ?_
  repeat walk_at "sb"
  refine c_take (top := 4) (by walk_at "dd") (by omega) (by omega) hs fun way h1 lt s1 x1 => ?_
  repeat walk_at "sb"
  refine Br.by (fun e => ?_) (fun e => ?_)
  · repeat walk_at "sb"
    refine c_take (top := 90) (by walk_at "dd") (by omega) (by omega) s1 fun a h2 ha s2 x2 => ?_
    repeat walk_at "sb"
    refine c_take (top := 90) (by walk_at "dd") (by omega) (by omega) s2 fun b h3 hb s3 x3 => ?_
    try walk_at "sb"
    refine OkO.is _ (str_of (n := a) (om16 ‹_› rfl)) ?_
    repeat walk_at "sb"
    refine New.go fun n h4 f4 k4 o4 => ?_
    refine c_one (by walk_at "dd") (s3.old o4) k4 (s3.ne f4).symm (Nat.le_of_ble_eq_true rfl) (Nat.le_of_ble_eq_true rfl) fun v h5 hv s5 x5 => ?_
    have x : Ex (· = k) h h5 := x1.trans (x2.trans (x3.trans (old_ex (n := n) o4 x5)))
    have da := digits_dig (n := a) (om16 ‹_› rfl)
    have db := digits_dig (n := b) (om16 ‹_› rfl)
    have dc := digits_dig (n := a + b) (by omega)
    have la := da.l
    have lb := db.l
    simp only [List.mem_cons, List.not_mem_nil, or_false] at hv
    have fin : ∀ (s : Nat), s ≤ 1 → wpe (T.bi Bi.str [T.bin .add (T.var 9) (T.var 10)]) [(155, .ref k), (161, .int way), (10, .int b), (9, .int a)] [] (d + 1) h5 (fun v h => Q (.tup [.str (digits a ++ (List.replicate s 32 ++ 43 :: (List.replicate s 32 ++ digits b))), v]) h) E := by
      intro s hs
      repeat walk_at "sb"
      refine OkO.is _ (str_of2 (by omega)) ?_
      exact q (sumSp s (digits a) (digits b) (digits (a + b))) h5 (sum_ok hs da db dc) s5 x
    rcases hv with rfl | rfl
    · refine OkO.is _ (add_of (by simp [LIM]; exact om4 ‹_› rfl)) ?_
      try walk_at "sb"
      refine OkO.is _ (str_of (n := b) (om16 ‹_› rfl)) ?_
      refine OkO.is _ (add_of (by simp [LIM]; omega)) ?_
      have := fin 1 (by omega)
      rw [show digits a ++ [32, 43, 32] ++ digits b = digits a ++ (List.replicate 1 32 ++ 43 :: (List.replicate 1 32 ++ digits b)) by simp]
      exact this
    · refine OkO.is _ (add_of (by simp [LIM]; exact om4 ‹_› rfl)) ?_
      try walk_at "sb"
      refine OkO.is _ (str_of (n := b) (om16 ‹_› rfl)) ?_
      refine OkO.is _ (add_of (by simp [LIM]; omega)) ?_
      have := fin 0 (Nat.zero_le _)
      rw [show digits a ++ [43] ++ digits b = digits a ++ (List.replicate 0 32 ++ 43 :: (List.replicate 0 32 ++ digits b)) by simp]
      exact this
  repeat walk_at "sb"
  refine Br.by (fun e => ?_) (fun e => ?_)
  · repeat walk_at "sb"
    refine c_literal' (by walk_at "dd") s1 fun X c h2 l s2 x2 => ?_
    exact q (litSp X c) h2 (lit_ok l) s2 (x1.trans x2)
  repeat walk_at "sb"
  refine Br.by (fun e => ?_) (fun e => ?_)
  · repeat walk_at "sb"
    refine c_literal' (by walk_at "dd") s1 fun X c h2 l2 s2 x2 => ?_
    repeat walk_at "sb"
    refine c_literal' (by walk_at "dd") s2 fun Y e h3 l3 s3 x3 => ?_
    have a2 := l2.len
    have a3 := l3.len
    repeat walk_at "sb"
    refine OkO.is _ (add_of (by simp [LIM]; omega)) ?_
    repeat walk_at "sb"
    refine OkO.is _ (add_of (by simp [LIM]; exact om4 ‹_› rfl)) ?_
    repeat walk_at "sb"
    refine OkO.is _ (add_of (by simp [LIM]; omega)) ?_
    repeat walk_at "sb"
    refine OkO.is _ (add_of (by simp [LIM]; omega)) ?_
    repeat walk_at "sb"
    refine OkO.is _ (add_of (by simp [LIM]; omega)) ?_
    have := q (ccSp X c Y e) h3 (cc_ok l2 l3) s3 (x1.trans (x2.trans x3))
    rw [show (ccSp X c Y e).txt = [99, 111, 110, 99, 97, 116, 40] ++ (c :: (X ++ [c])) ++ [44, 32] ++ (e :: (Y ++ [e])) ++ [41] by simp [ccSp, ccTxt, CC]] at this
    exact this
  · repeat walk_at "sb"
    refine c_take (top := 900) (by walk_at "dd") (by omega) (by omega) s1 fun a h2 ha s2 x2 => ?_
    repeat walk_at "sb"
    refine New.go fun n h3 f3 k3 o3 => ?_
    refine c_one (by walk_at "dd") (s2.old o3) k3 (s2.ne f3).symm (Nat.le_of_ble_eq_true rfl) (Nat.le_of_ble_eq_true rfl) fun v h4 hv s4 x4 => ?_
    have x : Ex (· = k) h h4 := x1.trans (x2.trans (old_ex (n := n) o3 x4))
    have da := digits_dig (n := a) (om16 ‹_› rfl)
    have la := da.l
    simp only [List.mem_cons, List.not_mem_nil, or_false] at hv
    rcases hv with rfl | rfl
    · try walk_at "sb"
      refine OkO.is _ (str_of (n := a) (om16 ‹_› rfl)) ?_
      refine OkO.is _ (add_of (by simp [LIM]; exact om5 ‹_› rfl)) ?_
      repeat walk_at "sb"
      refine OkO.is _ (add_of (by simp [LIM]; exact om4 ‹_› rfl)) ?_
      try walk_at "sb"
      refine OkO.is _ (str_of (n := a) (om16 ‹_› rfl)) ?_
      have := q (numSp 1 (digits a)) h4 (num_ok (by omega) da) s4 x
      rw [show (numSp 1 (digits a)).txt = [32] ++ digits a ++ [32] by simp [numSp, List.replicate]] at this
      exact this
    · try walk_at "sb"
      refine OkO.is _ (str_of (n := a) (om16 ‹_› rfl)) ?_
      refine OkO.is _ (add_of (by simp [LIM]; exact om4 ‹_› rfl)) ?_
      repeat walk_at "sb"
      refine OkO.is _ (add_of (by simp [LIM]; exact om4 ‹_› rfl)) ?_
      try walk_at "sb"
      refine OkO.is _ (str_of (n := a) (om16 ‹_› rfl)) ?_
      have := q (numSp 0 (digits a)) h4 (num_ok (Nat.zero_le _) da) s4 x
      rw [show (numSp 0 (digits a)).txt = [] ++ digits a ++ [32] by simp [numSp]] at this
      exact this
end
end Mine.Internal
end

section
open PySem
set_option autoImplicit false
namespace Mine.Internal
noncomputable def dbl (s : List Nat) : List Nat := repl1 125 [125, 125] (repl1 123 [123, 123] s)
noncomputable def elsOf (s : List Nat) : List El := s.map fun c => if c = 123 ∨ c = 125 then .br c else .ch c
inductive Pc where | t (s : List Nat) | p (sp : Sp)
noncomputable def Pc.ctorIdx (x : Pc) : Nat := @Pc.casesOn (fun zz => Nat) x (fun zz => 0) (fun zz => 1)
noncomputable def Pc.v : Pc → V
  | .t s => .tup [.str tTXT, .str (dbl s), .str s, .str s]
  | .p sp => .tup [.str tPATH, .str ([123] ++ sp.txt ++ [125]), .str sp.val, .str sp.txt]
structure TxtOk (s : List Nat) : Prop where
  l : s.length ≤ 6
  w : wr (elsOf s) = dbl s
  d : (dbl s).length ≤ 12
  r : (repl1 123 [123, 123] s).length ≤ 12
noncomputable def Pc.ok : Pc → Prop
  | .t s => TxtOk s
  | .p sp => SpOk sp
section
variable {d k : Nat} {h : Hp} {Q : QV} {E : QE}
theorem parts_loop {F n : Nat} {N B C : QL} {Rt : QV} (hd : d + 4 < 60) (hn : n ≤ 6) (Fk : F ≠ k) : ∀ (m i : Nat) (acc : List Pc) (l : List (Nat × V)) (h : Hp), i + m = n → acc.length = i → (∀ p ∈ acc, p.ok) → Src h k → h[F]? = some (.list (acc.map Pc.v)) → lk 155 l = some (.ref k) → lk 76 l = some (.ref F) →
    (∀ l' h' (pcs : List Pc), (∀ p ∈ pcs, Pc.ok p) → pcs.length ≤ 6 → lk 76 l' = some (.ref F) → Src h' k → h'[F]? = some (.list (pcs.map Pc.v)) → Ex (fun j => j = k ∨ j = F) h h' → N l' h') → Wfor (.name 130) (.rng n) i [S.ife (T.cmp (Cop.eq) (T.call (T.glob 154) [T.var 155, T.int 2]) (T.int 0)) [S.asg (Tg.name 141) (T.call (T.glob 157) [T.var 155, T.lst [T.str [], T.str [97], T.str [123], T.str [125], T.str [123, 125], T.str [39], T.str [125, 125, 123], T.str [32, 98, 32, 34], T.str [120, 123, 121, 125, 122]]]), S.expr (T.meth (T.var 76) 81 [T.tup [T.str [116, 101, 120, 116], T.repl (T.repl (T.var 141) 123 [123, 123]) 125 [125, 125], T.var 141, T.var 141]])] [S.asg (Tg.tup [Tg.name 164, Tg.name 26]) (T.call (T.glob 160) [T.var 155]), S.expr (T.meth (T.var 76) 81 [T.tup [T.str [112, 97, 116, 104], T.bin (Bop.add) (T.bin (Bop.add) (T.str [123]) (T.var 164)) (T.str [125]), T.var 26, T.var 164]])]] l [] d h N B C Rt E := by
  intro m
  induction m with
  | zero =>
    intro i acc l h hi ha hok hs hF h155 h76 q
    refine Wfor.stop ?_ (q l h acc hok (by omega) h76 hs hF Ex.refl)
    show some (if (i : Int) < n then some (V.int i) else none) = _
    rw [if_neg (by omega)]
  | succ m ih =>
    intro i acc l h hi ha hok hs hF h155 h76 q
    refine Wfor.step (v' := .int i) (l := put 130 (.int i) l) (h' := h) ?_ rfl ?_
    · show some (if (i : Int) < n then some (V.int i) else none) = _
      rw [if_pos (by omega)]
    repeat walk_at "sb"
    refine c_take (top := 2) (by walk_at "dd") (by omega) (by omega) hs fun way h1 lt s1 x1 => ?_
    have F1 := x1 _ _ hF Fk
    repeat walk_at "sb"
    refine Br.by (fun e => ?_) (fun e => ?_)
    · repeat walk_at "sb"
      refine New.go fun n' h2 f2 k2 o2 => ?_
      have F2 := o2 _ _ F1
      refine c_one (by walk_at "dd") (s1.old o2) k2 (s1.ne f2).symm (Nat.le_of_ble_eq_true rfl) (Nat.le_of_ble_eq_true rfl) fun v h3 hv s3 x3 => ?_
      have F3 := x3 _ _ F2 Fk
      obtain ⟨s, rfl, hs'⟩ : ∃ s, v = .str s ∧ TxtOk s := by
        simp only [List.mem_cons, List.not_mem_nil, or_false] at hv
        rcases hv with rfl | rfl | rfl | rfl | rfl | rfl | rfl | rfl | rfl <;> exact ⟨_, rfl, by decide, rfl, by decide, by decide⟩
      have sl := hs'.l
      repeat walk_at "sb"
      refine ⟨⟨by exact om4 ‹_› rfl, by simp, by simp⟩, ?_⟩
      refine ⟨⟨?_, by simp, by simp⟩, ?_⟩
      · have := hs'.r
        exact om4 ‹_› rfl
      repeat walk_at "sb"
      refine AppO.go F3 (by simp [LIM]; omega) fun h4 k4 x4 => ?_
      refine ih (i + 1) (acc ++ [.t s]) _ h4 (by omega) (by simp [ha]) (fun p hp => ?_) (s3.ex x4 Fk.symm) (by rw [k4]; simp only [List.map_append]; rfl) (by walk_at "lk") (by walk_at "lk") fun l' h' pcs a1 a2 a3 a4 a5 x => ?_
      · rcases List.mem_append.mp hp with hp | hp
        · exact hok p hp
        · rw [List.mem_singleton.mp hp]; exact hs'
      · exact q l' h' pcs a1 a2 a3 a4 a5 fun j o e n => x _ _ (x4 _ _ (x3 _ _ (o2 _ _ (x1 _ _ e fun q => n (.inl q))) fun q => n (.inl q)) fun q => n (.inr q)) n
    · repeat walk_at "sb"
      refine c_expression (by walk_at "dd") s1 fun sp h2 ok s2 x2 => ?_
      have F2 := x2 _ _ F1 Fk
      have sl := ok.len
      repeat walk_at "sb"
      refine OkO.is _ (add_of (by simp [LIM]; exact om5 ‹_› rfl)) ?_
      repeat walk_at "sb"
      refine OkO.is _ (add_of (by simp [LIM]; exact om4 ‹_› rfl)) ?_
      repeat walk_at "sb"
      refine AppO.go F2 (by simp [LIM]; omega) fun h4 k4 x4 => ?_
      refine ih (i + 1) (acc ++ [.p sp]) _ h4 (by omega) (by simp [ha]) (fun p hp => ?_) (s2.ex x4 Fk.symm) (by rw [k4]; simp only [List.map_append]; rfl) (by walk_at "lk") (by walk_at "lk") fun l' h' pcs a1 a2 a3 a4 a5 x => ?_
      · rcases List.mem_append.mp hp with hp | hp
        · exact hok p hp
        · rw [List.mem_singleton.mp hp]; exact ok
      · exact q l' h' pcs a1 a2 a3 a4 a5 fun j o e n => x _ _ (x4 _ _ (x2 _ _ (x1 _ _ e fun q => n (.inl q)) fun q => n (.inl q)) fun q => n (.inr q)) n
theorem c_parts (hd : d + 5 < 60) (hs : Src h k) (q : ∀ F h' (pcs : List Pc), (∀ p ∈ pcs, Pc.ok p) → pcs.length ≤ 6 → h[F]? = none → Src h' k → h'[F]? = some (.list (pcs.map Pc.v)) → Ex (· = k) h h' → Q (.ref F) h') : Wc d (.top 826) [.ref k] h Q E := by
  refine Wc.fn0 (om0 ‹_› rfl) rfl rfl rfl rfl ?_
  repeat walk_at "sb"
  refine New.go fun F h1 f1 k1 o1 => ?_
  repeat walk_at "sb"
  refine c_take (top := 7) (by walk_at "dd") (by omega) (by omega) (hs.old o1) fun r h2 lt s2 x2 => ?_
  have Fk : F ≠ k := (hs.ne f1).symm
  have hr : ∀ h, biV h .range [.int r] = some (.rng r) := fun h => if_pos (by unfold LIM; omega)
  refine OkO.is _ (hr _) ?_
  have hsr : ∀ h, isSrc h (.rng r) = true := fun h => by
    show (decide (0 ≤ (r : Int)) && decide ((r : Int).toNat ≤ LIM)) = true
    rw [Bool.and_eq_true, decide_eq_true_eq, decide_eq_true_eq]
    unfold LIM
    omega
  refine OkB.mk (hsr _) ?_
  refine parts_loop (by walk_at "dd") (by omega) Fk r 0 [] _ h2 (by omega) rfl (by simp) s2 (x2 _ _ k1 Fk) (by walk_at "lk") (by walk_at "lk") fun l' h' pcs a1 a2 a3 a4 a5 x => ?_
  repeat walk_at "sb"
  exact q F h' pcs a1 a2 f1 a4 a5 fun j o e n => x _ _ (x2 _ _ (o1 _ _ e) n) fun q => by
    rcases q with q | q
    · exact n q
    · exact ne_new e f1 q
end
end Mine.Internal
end

section
open PySem
set_option autoImplicit false
namespace Mine.Internal
noncomputable def dueStep (acc : List DP) : Pc → List DP
  | .p sp => acc ++ [.p sp]
  | .t s => match acc.getLast? with
    | some (.t u) => acc.dropLast ++ [.t (u ++ s)]
    | _ => if s = [] then acc else acc ++ [.t s]
noncomputable def dueOf (pcs : List Pc) (acc : List DP) : List DP := pcs.foldl dueStep acc
theorem idx_last {h : Hp} {n : Nat} {vs : List V} {v : V} (hm : h[n]? = some (.list (vs ++ [v]))) : idxV h (.ref n) (.int (-1)) = some v := by
  unfold idxV
  dsimp only
  rw [hm]
  dsimp only
  rw [if_pos (by decide)]
  unfold seqAt
  rw [if_neg (by omega), if_pos (by simp; omega)]
  have : ((-1 : Int) + ((vs ++ [v]).length : Nat)).toNat = vs.length := by simp; omega
  rw [this, List.getElem?_append_right (Nat.le_refl _), Nat.sub_self]
  rfl
theorem pos_last (n : Nat) : seqPos (n + 1) (-1) = some n := by
  unfold seqPos
  rw [if_neg (by omega), if_pos (by omega)]
  congr 1
  omega
theorem set_last {α : Type} (xs : List α) (a b : α) : (xs ++ [a]).set xs.length b = xs ++ [b] := by
  simp [List.set_append]
section
variable {d : Nat} {h : Hp} {Q : QV} {E : QE}
theorem due_loop {pcs : List Pc} {Sn D : Nat} {N B C : QL} {Rt : QV} (hd : d < 50) (SD : Sn ≠ D) (hlen : pcs.length ≤ 6) (hok : ∀ p ∈ pcs, Pc.ok p) : ∀ (r : List Pc) (i : Nat) (acc : List DP) (l : List (Nat × V)) (h : Hp), pcs.drop i = r → i ≤ pcs.length → acc.length ≤ i → (∀ x ∈ acc, ∀ u, x = DP.t u → u.length ≤ 6 * i) → h[Sn]? = some (.list (pcs.map Pc.v)) → h[D]? = some (.list (acc.map dpv)) → lk 167 l = some (.ref D) →
    (∀ l' h', lk 167 l' = some (.ref D) → h'[D]? = some (.list ((dueOf r acc).map dpv)) → Ex (· = D) h h' → N l' h') → Wfor (.tup [.name 69, .name 164, .name 26, .name 23]) (.ref Sn) i [S.ife (T.and [T.cmp (Cop.eq) (T.var 69) (T.str [116, 101, 120, 116]), T.cmp (Cop.ne) (T.var 167) (T.lst []), T.cmp (Cop.eq) (T.idx (T.idx (T.var 167) (T.neg (T.int 1))) (T.int 0)) (T.str [116, 101, 120, 116])]) [S.setIdx (T.var 167) (T.neg (T.int 1)) (T.tup [T.str [116, 101, 120, 116], T.bin (Bop.add) (T.idx (T.idx (T.var 167) (T.neg (T.int 1))) (T.int 1)) (T.var 23)])] [S.ife (T.or [T.cmp (Cop.eq) (T.var 69) (T.str [112, 97, 116, 104]), T.cmp (Cop.ne) (T.var 23) (T.str [])]) [S.expr (T.meth (T.var 167) 81 [T.tup [T.var 69, T.var 23]])] []]] l [] d h N B C Rt E := by
  intro r
  induction r with
  | nil =>
    intro i acc l h e hi ha hu hS hD h167 q
    have hle : pcs.length ≤ i := List.drop_eq_nil_iff.mp e
    have hi2 : i = pcs.length := by exact Nat.le_antisymm ‹_› ‹_›
    refine Wfor.stop ?_ (q l h h167 hD Ex.refl)
    have := src_end hS
    rw [List.length_map, ← hi2] at this
    exact this
  | cons p r ih =>
    intro i acc l h e hi ha hu hS hD h167 q
    obtain ⟨g1, g2, g3⟩ := ldrop e
    have hp : Pc.ok p := hok p (List.mem_of_getElem? g1)
    cases p with
    | p sp =>
      refine Wfor.step (src_at hS (by rw [List.getElem?_map, g1]; rfl)) rfl ?_
      repeat walk_at "sb"
      refine Br.f rfl ?_
      refine Br.f rfl ?_
      repeat walk_at "sb"
      refine Br.t rfl ?_
      refine Br.t rfl ?_
      repeat walk_at "sb"
      refine AppO.go hD (by simp [LIM]; exact om18 ‹_› ‹_› ‹_› rfl) fun h1 k1 x1 => ?_
      refine ih (i + 1) (acc ++ [.p sp]) _ h1 g2 g3 (by simp; omega) (fun x hx u e => ?_) (x1 _ _ hS SD) (by rw [k1]; simp only [List.map_append]; rfl) (by walk_at "lk") fun l' h' a1 a2 x => q l' h' a1 (show _ = some (O.list ((dueOf r (dueStep acc (.p sp))).map dpv)) from a2) (x1.trans x)
      rcases List.mem_append.mp hx with hx | hx
      · have := hu x hx u e; omega
      · rw [List.mem_singleton.mp hx] at e; cases e
    | t s =>
      have hs : s.length ≤ 6 := (show TxtOk s from hp).l
      refine Wfor.step (src_at hS (by rw [List.getElem?_map, g1]; rfl)) rfl ?_
      repeat walk_at "sb"
      refine Br.t rfl ?_
      repeat walk_at "sb"
      refine New.go fun n h1 f1 k1 o1 => ?_
      have hS1 := o1 _ _ hS
      have hD1 := o1 _ _ hD
      have nD : D ≠ n := ne_new hD f1
      have app : (∀ u, acc.getLast? ≠ some (.t u)) → wpxs [S.ife (T.or [T.cmp (Cop.eq) (T.var 69) (T.str [112, 97, 116, 104]), T.cmp (Cop.ne) (T.var 23) (T.str [])]) [S.expr (T.meth (T.var 167) 81 [T.tup [T.var 69, T.var 23]])] []] (put 23 (.str s) (put 26 (.str s) (put 164 (.str (dbl s)) (put 69 (.str tTXT) l)))) [] d h1 (fun l h => Wfor (.tup [.name 69, .name 164, .name 26, .name 23]) (.ref Sn) (i + 1) [S.ife (T.and [T.cmp (Cop.eq) (T.var 69) (T.str [116, 101, 120, 116]), T.cmp (Cop.ne) (T.var 167) (T.lst []), T.cmp (Cop.eq) (T.idx (T.idx (T.var 167) (T.neg (T.int 1))) (T.int 0)) (T.str [116, 101, 120, 116])]) [S.setIdx (T.var 167) (T.neg (T.int 1)) (T.tup [T.str [116, 101, 120, 116], T.bin (Bop.add) (T.idx (T.idx (T.var 167) (T.neg (T.int 1))) (T.int 1)) (T.var 23)])] [S.ife (T.or [T.cmp (Cop.eq) (T.var 69) (T.str [112, 97, 116, 104]), T.cmp (Cop.ne) (T.var 23) (T.str [])]) [S.expr (T.meth (T.var 167) 81 [T.tup [T.var 69, T.var 23]])] []]] l [] d h N B C Rt E) (fun l h => N l h) (fun l h => Wfor (.tup [.name 69, .name 164, .name 26, .name 23]) (.ref Sn) (i + 1) [S.ife (T.and [T.cmp (Cop.eq) (T.var 69) (T.str [116, 101, 120, 116]), T.cmp (Cop.ne) (T.var 167) (T.lst []), T.cmp (Cop.eq) (T.idx (T.idx (T.var 167) (T.neg (T.int 1))) (T.int 0)) (T.str [116, 101, 120, 116])]) [S.setIdx (T.var 167) (T.neg (T.int 1)) (T.tup [T.str [116, 101, 120, 116], T.bin (Bop.add) (T.idx (T.idx (T.var 167) (T.neg (T.int 1))) (T.int 1)) (T.var 23)])] [S.ife (T.or [T.cmp (Cop.eq) (T.var 69) (T.str [112, 97, 116, 104]), T.cmp (Cop.ne) (T.var 23) (T.str [])]) [S.expr (T.meth (T.var 167) 81 [T.tup [T.var 69, T.var 23]])] []]] l [] d h N B C Rt E) Rt E := by
        intro hg
        repeat walk_at "sb"
        refine Br.f rfl ?_
        repeat walk_at "sb"
        by_cases es : s = []
        · have e1 : dueStep acc (.t s) = acc := by
            unfold dueStep
            cases eg : acc.getLast? with
            | none => exact if_pos es
            | some x =>
              cases x with
              | t u => exact absurd eg (hg u)
              | p sp => exact if_pos es
          refine Br.f (by simp [es]) ?_
          refine ih (i + 1) acc _ h1 g2 g3 (om9 ‹_›) (fun x hx u e => ?_) hS1 hD1 (by walk_at "lk") fun l' h' a1 a2 x => q l' h' a1 ?_ (fun j o e n => x _ _ (o1 _ _ e) n)
          · have := hu x hx u e; omega
          · rw [a2]
            show _ = some (O.list ((dueOf r (dueStep acc (.t s))).map dpv))
            rw [e1]
        · have e1 : dueStep acc (.t s) = acc ++ [.t s] := by
            unfold dueStep
            cases eg : acc.getLast? with
            | none => exact if_neg es
            | some x =>
              cases x with
              | t u => exact absurd eg (hg u)
              | p sp => exact if_neg es
          refine Br.t (by simp [es]) ?_
          repeat walk_at "sb"
          refine AppO.go hD1 (by simp [LIM]; exact om18 ‹_› ‹_› ‹_› rfl) fun h2 k2 x2 => ?_
          refine ih (i + 1) (acc ++ [.t s]) _ h2 g2 g3 (by simp; omega) (fun x hx u e => ?_) (x2 _ _ hS1 SD) (by rw [k2]; simp only [List.map_append]; rfl) (by walk_at "lk") fun l' h' a1 a2 x => q l' h' a1 ?_ (fun j o e n => x _ _ (x2 _ _ (o1 _ _ e) n) n)
          · rcases List.mem_append.mp hx with hx | hx
            · have := hu x hx u e; omega
            · rw [List.mem_singleton.mp hx] at e; cases e; exact om4 ‹_› rfl
          · rw [a2]
            show _ = some (O.list ((dueOf r (dueStep acc (.t s))).map dpv))
            rw [e1]
      rcases List.eq_nil_or_concat acc with rfl | ⟨xs, x, rfl⟩
      · refine OkO.is _ (ne_lists hD1 k1 rfl) ?_
        refine Br.f rfl ?_
        refine Br.f rfl ?_
        exact app (fun u e => by cases e)
      · rw [List.concat_eq_append] at *
        have hD2 : h1[D]? = some (.list (xs.map dpv ++ [dpv x])) := by rw [hD1, List.map_append]; rfl
        refine OkO.is _ (ne_lists hD2 k1 (by rw [if_neg (by simp)])) ?_
        refine Br.t rfl ?_
        repeat walk_at "sb"
        refine OkO.is _ (idx_last hD2) ?_
        cases x with
        | p sp =>
          repeat walk_at "sb"
          refine Br.f rfl ?_
          exact app (fun u e => by simp at e)
        | t u =>
          have hul := hu (.t u) (by simp) u rfl
          repeat walk_at "sb"
          refine Br.t rfl ?_
          repeat walk_at "sb"
          refine OkO.is _ (idx_last hD2) ?_
          repeat walk_at "sb"
          refine OkO.is _ (add_of (a := u) (by unfold LIM; omega)) ?_
          repeat walk_at "sb"
          refine SetI.go (j := xs.length) hD2 (by simp; exact pos_last _) (by decide) fun h2 k2 x2 => ?_
          have e1 : dueStep (xs ++ [.t u]) (.t s) = xs ++ [.t (u ++ s)] := by
            unfold dueStep
            simp
          refine ih (i + 1) (xs ++ [.t (u ++ s)]) _ h2 g2 g3 (by simp at ha ⊢; exact om10 ‹_›) (fun x hx v e => ?_) (x2 _ _ hS1 SD) (by
            rw [k2, ← List.length_map (f := dpv) (as := xs), set_last]; simp only [List.map_append]; rfl) (by walk_at "lk") fun l' h' a1 a2 x => q l' h' a1 ?_ (fun j o e n => x _ _ (x2 _ _ (o1 _ _ e) n) n)
          · rcases List.mem_append.mp hx with hx | hx
            · have := hu x (List.mem_append_left _ hx) v e; omega
            · rw [List.mem_singleton.mp hx] at e; cases e; simp; omega
          · rw [a2]
            show _ = some (O.list ((dueOf r (dueStep (xs ++ [.t u]) (.t s))).map dpv))
            rw [e1]
theorem c_due {pcs : List Pc} {Sn : Nat} (hd : d + 1 < 50) (hlen : pcs.length ≤ 6) (hok : ∀ p ∈ pcs, Pc.ok p) (hS : h[Sn]? = some (.list (pcs.map Pc.v))) (q : ∀ D h', h[D]? = none → h'[D]? = some (.list ((dueOf pcs []).map dpv)) → Old h h' → Q (.ref D) h') : Wc d (.top 833) [.ref Sn] h Q E := by
  refine Wc.fn0 (om0 ‹_› rfl) rfl rfl rfl rfl ?_
  repeat walk_at "sb"
  refine New.go fun D h1 f1 k1 o1 => ?_
  have hS1 := o1 _ _ hS
  repeat walk_at "sb"
  refine due_loop (by walk_at "dd") (ne_new hS f1) hlen hok pcs 0 [] _ h1 rfl (Nat.zero_le _) (by simp) (by simp) hS1 k1 (by walk_at "lk") fun l' h' a1 a2 x => ?_
  repeat walk_at "sb"
  exact q D h' f1 a2 (old_of f1 o1 x)
end
end Mine.Internal
end

section
open PySem
set_option autoImplicit false
namespace Mine.Internal
noncomputable def Pc.els : Pc → List El
  | .t s => elsOf s
  | .p sp => [.ex sp.txt]
noncomputable def elsAll : List Pc → List El
  | [] => []
  | p :: r => p.els ++ elsAll r
noncomputable def Pc.w : Pc → List Nat
  | .t s => dbl s
  | .p sp => [123] ++ sp.txt ++ [125]
theorem wr_app : ∀ (a b : List El), wr (a ++ b) = wr a ++ wr b
  | [], b => rfl
  | e :: a, b => by
    show e.txt ++ wr (a ++ b) = (e.txt ++ wr a) ++ wr b
    rw [wr_app a b, List.append_assoc]
theorem elsOf_ok (s : List Nat) : ∀ e ∈ elsOf s, El.ok e := by
  intro e he
  obtain ⟨c, hc, rfl⟩ := List.mem_map.mp he
  split
  · rename_i h; exact h
  · rename_i h
    exact ⟨fun q => h (.inl q), fun q => h (.inr q)⟩
theorem elsAll_ok : ∀ {pcs : List Pc}, (∀ p ∈ pcs, Pc.ok p) → ∀ e ∈ elsAll pcs, El.ok e
  | [], _, _, he => nomatch he
  | p :: r, ok, e, he => by
    rcases List.mem_append.mp he with he | he
    · cases p with
      | t s => exact elsOf_ok s e he
      | p sp =>
        rw [List.mem_singleton.mp he]
        exact (show SpOk sp from ok _ (.head _)).sc
    · exact elsAll_ok (fun p hp => ok p (.tail _ hp)) e he
theorem wr_all : ∀ {pcs : List Pc}, (∀ p ∈ pcs, Pc.ok p) → wr (elsAll pcs) = (pcs.map Pc.w).flatten
  | [], _ => rfl
  | p :: r, ok => by
    show wr (p.els ++ elsAll r) = p.w ++ (r.map Pc.w).flatten
    rw [wr_app, wr_all fun p hp => ok p (.tail _ hp)]
    congr 1
    cases p with
    | t s => exact (show TxtOk s from ok _ (.head _)).w
    | p sp => exact List.append_nil _
theorem flat_len : ∀ {pcs : List Pc}, (∀ p ∈ pcs, Pc.ok p) → ((pcs.map Pc.w).flatten).length ≤ 62 * pcs.length
  | [], _ => Nat.le_refl _
  | p :: r, ok => by
    have := flat_len (pcs := r) fun p hp => ok p (.tail _ hp)
    have h2 : p.w.length ≤ 62 := by
      cases p with
      | t s => have := (show TxtOk s from ok _ (.head _)).d; simp only [Pc.w]; exact om4 ‹_› rfl
      | p sp => have := (show SpOk sp from ok _ (.head _)).len; simp [Pc.w]; exact ‹_›
    simp only [List.map_cons, List.flatten_cons, List.length_append, List.length_cons]
    omega
theorem go_els : ∀ (s : List Nat) (es : List El) (pl : List Nat) (ps : List Part), go (elsOf s ++ es) pl ps = go es (pl ++ s) ps
  | [], es, pl, ps => by rw [List.append_nil]; rfl
  | c :: s, es, pl, ps => by
    have h : go (elsOf (c :: s) ++ es) pl ps = go (elsOf s ++ es) (pl ++ [c]) ps := by
      show go ((if c = 123 ∨ c = 125 then El.br c else El.ch c) :: (elsOf s ++ es)) pl ps = _
      split <;> rfl
    rw [h, go_els s es, List.append_assoc]
    rfl
structure Inv (acc : List DP) (pl : List Nat) (ps : List Part) : Prop where
  p : (∃ a, acc = a ++ [.t pl] ∧ pl ≠ [] ∧ a.map DP.part = ps) ∨ (pl = [] ∧ acc.map DP.part = ps ∧ ∀ u, acc.getLast? ≠ some (.t u))
theorem Inv.all {acc : List DP} {pl : List Nat} {ps : List Part} (i : Inv acc pl ps) : acc.map DP.part = ps ++ flush pl := by
  rcases i.p with ⟨a, rfl, n, rfl⟩ | ⟨rfl, rfl, _⟩
  · rw [flush, if_neg n, List.map_append]; rfl
  · rw [flush, if_pos rfl, List.append_nil]
theorem Inv.t {acc : List DP} {pl s : List Nat} {ps : List Part} (i : Inv acc pl ps) : Inv (dueStep acc (.t s)) (pl ++ s) ps := by
  rcases i.p with ⟨a, rfl, n, rfl⟩ | ⟨rfl, rfl, g⟩
  · have e1 : dueStep (a ++ [.t pl]) (.t s) = a ++ [.t (pl ++ s)] := by
      unfold dueStep
      simp
    rw [e1]
    exact ⟨.inl ⟨a, rfl, by simp [n], rfl⟩⟩
  · by_cases es : s = []
    · have e1 : dueStep acc (.t s) = acc := by
        unfold dueStep
        cases eg : acc.getLast? with
        | none => exact if_pos es
        | some x =>
          cases x with
          | t u => exact absurd eg (g u)
          | p sp => exact if_pos es
      rw [e1, es]
      exact ⟨.inr ⟨rfl, rfl, g⟩⟩
    · have e1 : dueStep acc (.t s) = acc ++ [.t s] := by
        unfold dueStep
        cases eg : acc.getLast? with
        | none => exact if_neg es
        | some x =>
          cases x with
          | t u => exact absurd eg (g u)
          | p sp => exact if_neg es
      rw [e1]
      exact ⟨.inl ⟨acc, rfl, es, rfl⟩⟩
theorem go_due : ∀ (pcs : List Pc) (acc : List DP) (pl : List Nat) (ps : List Part), Inv acc pl ps → Inv (dueOf pcs acc) (go (elsAll pcs) pl ps).1 (go (elsAll pcs) pl ps).2
  | [], acc, pl, ps, i => i
  | .t s :: r, acc, pl, ps, i => by
    show Inv (dueOf r (dueStep acc (.t s))) (go (elsOf s ++ elsAll r) pl ps).1 (go (elsOf s ++ elsAll r) pl ps).2
    rw [go_els]
    exact go_due r _ _ _ i.t
  | .p sp :: r, acc, pl, ps, i => by
    show Inv (dueOf r (acc ++ [.p sp])) (go (elsAll r) [] (ps ++ flush pl ++ [(tPATH, sp.txt)])).1 (go (elsAll r) [] (ps ++ flush pl ++ [(tPATH, sp.txt)])).2
    refine go_due r _ _ _ ⟨.inr ⟨rfl, ?_, by simp⟩⟩
    rw [List.map_append, i.all]
    rfl
theorem parts_due (pcs : List Pc) : parts (elsAll pcs) = (dueOf pcs []).map DP.part := by
  have := (go_due pcs [] [] [] ⟨.inr ⟨rfl, rfl, by simp⟩⟩).all
  rw [this]
  rfl
structure WrongOk (r : List Nat) : Prop where
  p : ∃ es r', (∀ e ∈ es, El.ok e) ∧ r = wr es ++ r' ∧ Bad r'
  l : r.length ≤ 6
noncomputable abbrev wrongs : List (List Nat) := [[123], [125], [123, 97], [97, 125, 98], [123, 97, 123, 98, 125, 125], [123, 39, 97, 125], [123, 34, 125], [125, 97], [123, 97, 123], [123, 125, 123], [123, 39, 39]]
theorem bad_r {r : List Nat} (h : r.head? ≠ some 125) : Bad (125 :: r) := .inl ⟨r, rfl, h⟩
theorem bad_l {r : List Nat} (h : r.head? ≠ some 123) (n : NoEnd r) : Bad (123 :: r) := .inr ⟨r, rfl, h, n⟩
theorem wrongs_ok : ∀ r ∈ wrongs, WrongOk r := by
  intro r hr
  simp only [List.mem_cons, List.not_mem_nil, or_false] at hr
  rcases hr with rfl | rfl | rfl | rfl | rfl | rfl | rfl | rfl | rfl | rfl | rfl
  · exact ⟨⟨[], [123], by simp, rfl, bad_l (by decide) (.inl ⟨none, rfl⟩)⟩, by decide⟩
  · exact ⟨⟨[], [125], by simp, rfl, bad_r (by decide)⟩, by decide⟩
  · exact ⟨⟨[], [123, 97], by simp, rfl, bad_l (by decide) (.inl ⟨none, rfl⟩)⟩, by decide⟩
  · exact ⟨⟨[.ch 97], [125, 98], by simp [El.ok], rfl, bad_r (by decide)⟩, by decide⟩
  · exact ⟨⟨[], [123, 97, 123, 98, 125, 125], by simp, rfl, bad_l (by decide) (.inr ⟨[97], [98, 125, 125], rfl, rfl⟩)⟩, by decide⟩
  · exact ⟨⟨[], [123, 39, 97, 125], by simp, rfl, bad_l (by decide) (.inl ⟨some 39, rfl⟩)⟩, by decide⟩
  · exact ⟨⟨[], [123, 34, 125], by simp, rfl, bad_l (by decide) (.inl ⟨some 34, rfl⟩)⟩, by decide⟩
  · exact ⟨⟨[], [125, 97], by simp, rfl, bad_r (by decide)⟩, by decide⟩
  · exact ⟨⟨[], [123, 97, 123], by simp, rfl, bad_l (by decide) (.inr ⟨[97], [], rfl, rfl⟩)⟩, by decide⟩
  · exact ⟨⟨[.ex []], [123], by simp [El.ok, scanQ], rfl, bad_l (by decide) (.inl ⟨none, rfl⟩)⟩, by decide⟩
  · exact ⟨⟨[], [123, 39, 39], by simp, rfl, bad_l (by decide) (.inl ⟨none, rfl⟩)⟩, by decide⟩
section
variable {d : Nat} {h : Hp} {Q : QV} {E : QE}
theorem wrong_loop {t : List Nat} {es : List El} {Wn cn : Nat} {ws : List (List Nat)} {Q : List V → Hp → Prop} (hd : d + 4 < 50) (hl : t.length ≤ 3000) (ok : ∀ e ∈ es, El.ok e) (et : t = wr es) (hw : ∀ r ∈ ws, WrongOk r) : ∀ (r : List (List Nat)) (i : Nat) (l : List (Nat × V)) (h : Hp), ws.drop i = r → i ≤ ws.length → h[Wn]? = some (.list (ws.map .str)) → h[cn]? = some (.cell (some (.str t))) → (∀ h', Old h h' → Q [] h') →
    Wcm (T.var 9) (Tg.name 9) (.ref Wn) [T.not (T.call (T.glob 168) [T.bin (Bop.add) (T.cell 70) (T.var 9)])] i [] l [(70, cn)] d h Q := by
  intro r
  induction r with
  | nil =>
    intro i l h e hi hW hc q
    have hle : ws.length ≤ i := List.drop_eq_nil_iff.mp e
    have hi2 : i = ws.length := by exact Nat.le_antisymm ‹_› ‹_›
    refine Wcm.stop ?_ (q h Old.refl)
    have := src_end hW
    rw [List.length_map, ← hi2] at this
    exact this
  | cons w r ih =>
    intro i l h e hi hW hc q
    obtain ⟨g1, g2, g3⟩ := ldrop e
    obtain ⟨⟨es', r', ok', ew, hb⟩, hwl⟩ := hw w (List.mem_of_getElem? g1)
    refine Wcm.step (src_at hW (by rw [List.getElem?_map, g1]; rfl)) rfl (by simp) ?_
    repeat walk_at "sb"
    refine ⟨_, hc, ?_⟩
    repeat walk_at "sb"
    refine OkO.is _ (add_of (by simp [LIM]; omega)) ?_
    refine c_refused (es := es ++ es') (r := r') (by walk_at "dd") (by simp; omega) (fun e he => ?_) (by rw [wr_app, et, ew, List.append_assoc]) hb fun h1 o1 => ?_
    · rcases List.mem_append.mp he with he | he
      · exact ok e he
      · exact ok' e he
    · refine Br.f rfl ?_
      refine Br.f rfl ?_
      exact ih (i + 1) _ h1 g2 g3 (o1 _ _ hW) (o1 _ _ hc) fun h' o => q h' (o1.trans o)
theorem c_wrong_right {t : List Nat} {es : List El} {u : V} (hd : d + 5 < 50) (hl : t.length ≤ 3000) (ok : ∀ e ∈ es, El.ok e) (et : t = wr es) (q : ∀ h', Old h h' → Q (.bool true) h') : Wc d (.top 845) [u, .str t] h Q E := by
  have hc : (h ++ [O.cell none])[h.length]? = some (.cell none) := by
    rw [List.getElem?_append_right (Nat.le_refl _), Nat.sub_self]; rfl
  have o0 : Old h ((h ++ [O.cell none]).set h.length (.cell (some (.str t)))) := fun j o e => by
    rw [List.getElem?_set_ne (by have := lt_of e; omega), List.getElem?_append_left (lt_of e)]
    exact e
  have hc' : ((h ++ [O.cell none]).set h.length (.cell (some (.str t))))[h.length]? = some (.cell (some (.str t))) := get_set hc
  refine Wc.fn (l := [(155, u)]) (h' := (h ++ [O.cell none]).set h.length (.cell (some (.str t)))) rfl (om0 ‹_› rfl) rfl ?_ ?_
  · show (match (match (h ++ [O.cell none])[h.length]? with | some (.cell _) => some ([(155, u)], (h ++ [O.cell none]).set h.length (.cell (some (.str t)))) | _ => none : Option (List (Nat × V) × Hp)) with
      | some (l, h') => asgTs ⟨l, [(70, h.length)], d + 1⟩ h' [] []
      | none => none) = _
    rw [hc]
    rfl
  have o0' := o0
  revert o0' hc'
  generalize (h ++ [O.cell none]).set h.length (.cell (some (.str t))) = h0
  intro hc' o0'
  show wpxs fi__law_wrong_right.body [(155, u)] [(70, h.length)] (d + 1) h0 _ _ _ _ _
  generalize h.length = cn at hc' ⊢
  repeat walk_at "sb"
  refine New.go fun Wn h1 f1 k1 o1 => ?_
  repeat walk_at "sb"
  refine wrong_loop (ws := wrongs) (by walk_at "dd") hl ok et wrongs_ok wrongs 0 [] h1 rfl (Nat.zero_le _) k1 (o1 _ _ hc') fun h2 o2 => ?_
  refine New.go fun n3 h3 f3 k3 o3 => ?_
  refine New.go fun n4 h4 f4 k4 o4 => ?_
  refine OkO.is _ (ne_lists (o4 _ _ k3) k4 rfl) ?_
  refine Br.f rfl ?_
  repeat walk_at "sb"
  refine New.go fun n5 h5 f5 k5 o5 => ?_
  repeat walk_at "sb"
  have od : ∀ {h9 : Hp}, Old h5 h9 → Old h h9 := fun x => o0'.trans (o1.trans (o2.trans (o3.trans (o4.trans (o5.trans x)))))
  refine c_split_avt (es := [.br 123, .ex [97], .br 125]) (by walk_at "dd") (by decide) (by simp [El.ok, scanQ]) rfl fun n6 h6 f6 k6 o6 => ?_
  repeat walk_at "sb"
  refine OkO.is _ (eq_lists k6 (o6 _ _ k5) rfl) ?_
  refine Br.t rfl ?_
  repeat walk_at "sb"
  refine c_split_avt (es := [.ex []]) (by walk_at "dd") (by decide) (by simp [El.ok, scanQ]) rfl fun n7 h7 f7 k7 o7 => ?_
  refine New.go fun n8 h8 f8 k8 o8 => ?_
  refine OkO.is _ (eq_lists (o8 _ _ k7) k8 rfl) ?_
  refine Br.t rfl ?_
  repeat walk_at "sb"
  refine c_split_avt (es := []) (by walk_at "dd") (by decide) (by simp) rfl fun n9 h9 f9 k9 o9 => ?_
  refine New.go fun n10 h10 f10 k10 o10 => ?_
  refine OkO.is _ (eq_lists (o10 _ _ k9) k10 rfl) ?_
  exact q h10 (od (o6.trans (o7.trans (o8.trans (o9.trans o10)))))
end
end Mine.Internal
end

section
open PySem
set_option autoImplicit false
namespace Mine.Internal
theorem cm_loop {α : Type} {e : T} {t : Tg} {cs : List T} {F d : Nat} {cel : List (Nat × Nat)} {xs : List α} {val : α → V} {out : α → Option V} {h : Hp} {Q : List V → Hp → Prop} (hF : h[F]? = some (.list (xs.map val))) (hlen : xs.length ≤ 1000)
    (st : ∀ x ∈ xs, ∀ l : List (Nat × V), ∃ l', asgT ⟨l, cel, d⟩ h t (val x) = some (l', h) ∧ ∀ (KT : QV) (KF : Hp → Prop), (∀ v, out x = some v → KT v h) → (out x = none → KF h) → wtsts cs l' cel d h (fun b h => Br b (wpe e l' cel d h KT (fun zz zz zz => False)) (KF h)) (fun zz zz zz => False)) :
    ∀ (r : List α) (i : Nat) (acc : List V) (l : List (Nat × V)), xs.drop i = r → i ≤ xs.length → acc.length ≤ i → Q (acc ++ r.filterMap out) h → Wcm e t (.ref F) cs i acc l cel d h Q := by
  intro r
  induction r with
  | nil =>
    intro i acc l e1 hi ha q
    have hle : xs.length ≤ i := List.drop_eq_nil_iff.mp e1
    have hi2 : i = xs.length := by exact Nat.le_antisymm ‹_› ‹_›
    refine Wcm.stop ?_ (by rwa [List.filterMap_nil, List.append_nil] at q)
    have := src_end hF
    rw [List.length_map, ← hi2] at this
    exact this
  | cons x r ih =>
    intro i acc l e1 hi ha q
    obtain ⟨g1, g2, g3⟩ := ldrop e1
    obtain ⟨l', ea, k⟩ := st x (List.mem_of_getElem? g1) l
    refine Wcm.step (src_at hF (by rw [List.getElem?_map, g1]; rfl)) ea (by unfold LIM; exact om18 ‹_› ‹_› ‹_› rfl) ?_
    refine k _ _ (fun v ev => ?_) (fun ev => ?_)
    · refine ih (i + 1) (acc ++ [v]) l' g2 g3 (by simp; omega) ?_
      rw [List.filterMap_cons_some ev] at q
      rw [List.append_assoc]
      exact q
    · refine ih (i + 1) acc l' g2 g3 (om9 ‹_›) ?_
      rwa [List.filterMap_cons_none ev] at q
theorem fm_map {α β : Type} (f : α → β) : ∀ xs : List α, xs.filterMap (fun x => some (f x)) = xs.map f
  | [] => rfl
  | x :: xs => by
    show f x :: xs.filterMap (fun x => some (f x)) = f x :: xs.map f
    rw [fm_map f xs]
theorem eqps_parts : ∀ L : List Part, eqps (eqp 4) (L.map tupv) (L.map tupv) = some true
  | [] => rfl
  | p :: L => by
    show (match eqp 4 (tupv p) (tupv p), eqps (eqp 4) (L.map tupv) (L.map tupv) with
      | some x, some y => some (x && y)
      | _, _ => none) = _
    rw [eqps_parts L]
    show (match (match eqp 3 (.str p.1) (.str p.1), (match eqp 3 (.str p.2) (.str p.2), some true with | some x, some y => some (x && y) | _, _ => none) with | some x, some y => some (x && y) | _, _ => none), some true with | some x, some y => some (x && y) | _, _ => none) = some true
    rw [eqp_str, eqp_str]; rfl
theorem eqps_strs : ∀ L : List (List Nat), eqps (eqp 4) (L.map V.str) (L.map V.str) = some true
  | [] => rfl
  | p :: L => by
    show (match eqp 4 (.str p) (.str p), eqps (eqp 4) (L.map V.str) (L.map V.str) with
      | some x, some y => some (x && y)
      | _, _ => none) = _
    rw [eqps_strs L, eqp_str]; rfl
theorem eqself {x : List V} (e : eqps (eqp 4) x x = some true) : (if x.length = x.length then eqps (eqp 4) x x else some false) = some true := by
  rw [if_pos rfl, e]
noncomputable def DP.path? : DP → Option Sp
  | .t _ => none
  | .p sp => some sp
noncomputable def Pc.path? : Pc → Option Sp
  | .t _ => none
  | .p sp => some sp
theorem asked_eq : ∀ ds : List DP, DP.asked ds = ((ds.filterMap DP.path?).map Sp.txt).map V.str
  | [] => rfl
  | .t _ :: r => asked_eq r
  | .p sp :: r => by
    show V.str sp.txt :: DP.asked r = V.str sp.txt :: _
    rw [asked_eq r]
theorem last_split {α : Type} : ∀ (l : List α) (x : α), l.getLast? = some x → ∃ a, l = a ++ [x]
  | l, x, e => by
    rcases List.eq_nil_or_concat l with rfl | ⟨a, y, rfl⟩
    · cases e
    · simp at e
      subst e
      exact ⟨a, by simp⟩
theorem step_cases (acc : List DP) (p : Pc) : (∃ a u s, p = .t s ∧ acc = a ++ [.t u] ∧ dueStep acc p = a ++ [.t (u ++ s)]) ∨ (∃ s, p = .t s ∧ dueStep acc p = acc) ∨ (∃ s, p = .t s ∧ dueStep acc p = acc ++ [.t s]) ∨ (∃ sp, p = .p sp ∧ dueStep acc p = acc ++ [.p sp]) := by
  cases p with
  | p sp => exact .inr (.inr (.inr ⟨sp, rfl, rfl⟩))
  | t s =>
    cases eg : acc.getLast? with
    | none =>
      by_cases es : s = []
      · exact .inr (.inl ⟨s, rfl, by unfold dueStep; rw [eg]; exact if_pos es⟩)
      · exact .inr (.inr (.inl ⟨s, rfl, by unfold dueStep; rw [eg]; exact if_neg es⟩))
    | some x =>
      cases x with
      | t u =>
        obtain ⟨a, rfl⟩ := last_split _ _ eg
        exact .inl ⟨a, u, s, rfl, rfl, by unfold dueStep; simp⟩
      | p sp =>
        by_cases es : s = []
        · exact .inr (.inl ⟨s, rfl, by unfold dueStep; rw [eg]; exact if_pos es⟩)
        · exact .inr (.inr (.inl ⟨s, rfl, by unfold dueStep; rw [eg]; exact if_neg es⟩))
theorem step_paths (acc : List DP) (p : Pc) : (dueStep acc p).filterMap DP.path? = acc.filterMap DP.path? ++ [p].filterMap Pc.path? := by
  rcases step_cases acc p with ⟨a, u, s, rfl, rfl, e⟩ | ⟨s, rfl, e⟩ | ⟨s, rfl, e⟩ | ⟨sp, rfl, e⟩ <;> rw [e] <;> (try simp [DP.path?, Pc.path?]) <;> rfl
theorem due_paths : ∀ (pcs : List Pc) (acc : List DP), (dueOf pcs acc).filterMap DP.path? = acc.filterMap DP.path? ++ pcs.filterMap Pc.path?
  | [], acc => by simp [dueOf]
  | p :: r, acc => by
    show (dueOf r (dueStep acc p)).filterMap DP.path? = _
    rw [due_paths r, step_paths, List.append_assoc, ← List.filterMap_append]
    rfl
theorem due_len : ∀ (pcs : List Pc) (acc : List DP), (dueOf pcs acc).length ≤ acc.length + pcs.length
  | [], acc => Nat.le_refl _
  | p :: r, acc => by
    have := due_len r (dueStep acc p)
    have h2 : (dueStep acc p).length ≤ acc.length + 1 := by
      rcases step_cases acc p with ⟨a, u, s, rfl, rfl, e⟩ | ⟨s, rfl, e⟩ | ⟨s, rfl, e⟩ | ⟨sp, rfl, e⟩ <;> rw [e] <;> simp
    show (dueOf r (dueStep acc p)).length ≤ _
    simp only [List.length_cons]
    omega
theorem due_shown : ∀ (pcs : List Pc) (acc : List DP), (∀ p ∈ pcs, Pc.ok p) → ((dueOf pcs acc).map DP.shown).flatten.length ≤ (acc.map DP.shown).flatten.length + 62 * pcs.length
  | [], acc, _ => Nat.le_refl _
  | p :: r, acc, ok => by
    have := due_shown r (dueStep acc p) fun p hp => ok p (.tail _ hp)
    have hp := ok p (.head _)
    have h2 : ((dueStep acc p).map DP.shown).flatten.length ≤ (acc.map DP.shown).flatten.length + 62 := by
      rcases step_cases acc p with ⟨a, u, s, rfl, rfl, e⟩ | ⟨s, rfl, e⟩ | ⟨s, rfl, e⟩ | ⟨sp, rfl, e⟩ <;> rw [e]
      · have := (show TxtOk s from hp).l
        simp [DP.shown]; omega
      · exact Nat.le_add_right _ _
      · have := (show TxtOk s from hp).l
        simp [DP.shown]; exact om4 ‹_› rfl
      · have := (show SpOk sp from hp).len
        simp [DP.shown]; exact ‹_›
    show ((dueOf r (dueStep acc p)).map DP.shown).flatten.length ≤ _
    simp only [List.length_cons]
    omega
theorem due_ok {pcs : List Pc} (ok : ∀ p ∈ pcs, Pc.ok p) {p : DP} (hp : p ∈ dueOf pcs []) {sp : Sp} (e : p = .p sp) : SpOk sp := by
  subst e
  have h1 : sp ∈ (dueOf pcs []).filterMap DP.path? := List.mem_filterMap.mpr ⟨_, hp, rfl⟩
  rw [due_paths, List.filterMap_nil, List.nil_append] at h1
  obtain ⟨q, hq, eq⟩ := List.mem_filterMap.mp h1
  cases q with
  | t s => cases eq
  | p sp' => cases eq; exact ok _ hq
section
variable {d c : Nat} {h : Hp} {E : QE}
theorem law1 {zs : List Int} {N B C : QL} {Rt : QV} (hd : d + 10 < 50) (hlen : zs.length ≤ 1000) (hc : h[c]? = some (.cell none))
    (q : ∀ l' h' k F D A (pcs : List Pc), (∀ p ∈ pcs, Pc.ok p) → pcs.length ≤ 6 → lk 155 l' = some (.ref k) → lk 166 l' = some (.ref F) → lk 70 l' = some (.str (pcs.map Pc.w).flatten) → lk 167 l' = some (.ref D) → Src h' k → h'[F]? = some (.list (pcs.map Pc.v)) → h'[D]? = some (.list ((dueOf pcs []).map dpv)) → h'[A]? = some (.list []) → D ≠ A → F ≠ A → h'[c]? = some (.cell (some (.ref A))) → Ex (· = c) h h' → N l' h') :
    wpxs (fi_law.body.take 5) [(148, .lst (zs.map .int))] [(173, c)] d h N B C Rt E := by
  show wpxs [_, _, _, _, _] _ _ _ _ _ _ _ _ _
  repeat walk_at "sb"
  refine c_pool (by walk_at "dd") (fun v hv => by
    obtain ⟨i, zz, rfl⟩ := List.mem_map.mp hv
    exact ⟨i, rfl⟩) (by simp; omega) fun k h1 f1 s1 o1 => ?_
  repeat walk_at "sb"
  refine c_parts (by walk_at "dd") s1 fun F h2 pcs ok len fF s2 kF x2 => ?_
  repeat walk_at "sb"
  refine cm_loop (out := fun p => some (.str (Pc.w p))) kF (om4 ‹_› rfl) (fun p hp l => ?_) pcs 0 [] [] rfl (Nat.zero_le _) (by simp) ?_
  · refine ⟨_, rfl, fun KT KF a b => ?_⟩
    refine Br.t rfl ?_
    cases p with
    | t s =>
      repeat walk_at "sb"
      exact a _ rfl
    | p sp =>
      repeat walk_at "sb"
      exact a _ rfl
  rw [List.nil_append, fm_map]
  refine New.go fun n h3 f3 k3 o3 => ?_
  have fl := flat_len ok
  refine OkO.is _ (join_of k3 (strs_map Pc.w pcs) (by unfold LIM; omega)) ?_
  repeat walk_at "sb"
  refine c_due (by walk_at "dd") len ok (o3 _ _ kF) fun D h4 fD kD o4 => ?_
  repeat walk_at "sb"
  refine c_split_avt (es := elsAll pcs) (by walk_at "dd") (by omega) (elsAll_ok ok) (wr_all ok).symm fun n5 h5 f5 k5 o5 => ?_
  repeat walk_at "sb"
  rw [parts_due] at k5
  have kD5 := o5 _ _ kD
  refine OkO.is _ (ne_lists k5 (by rw [List.map_map]; exact kD5) (eqself (eqps_parts _))) ?_
  refine Br.f rfl ?_
  repeat walk_at "sb"
  refine New.go fun A h6 fA kA o6 => ?_
  have kc : ∀ j o, h[j]? = some o → h6[j]? = some o := fun j o e => by
    have e1 := o1 _ _ e
    have e2 := x2 _ _ e1 fun q => ne_new e f1 q
    exact o6 _ _ (o5 _ _ (o4 _ _ (o3 _ _ e2)))
  have hk : k ≠ c := fun q => ne_new hc f1 q.symm
  have o26 : Old h2 h6 := o3.trans (o4.trans (o5.trans o6))
  have x7 : Ex (· = c) h6 (h6.set c (.cell (some (.ref A)))) := ex_set
  have kc6 := kc _ _ hc
  refine OkO.is (_, h6.set c (.cell (some (.ref A)))) (by
    show (match h6[c]? with | some (.cell _) => some (_, h6.set c (.cell (some (.ref A)))) | _ => none : Option (List (Nat × V) × Hp)) = _
    rw [kc6]) ?_
  have nF : F ≠ c := fun q => by
    have := x2 _ _ (o1 _ _ hc) hk.symm
    rw [← q, kF] at this; cases this
  have nD : D ≠ c := fun q => by
    have := o6 _ _ kD5
    rw [q, kc6] at this; cases this
  have nA : A ≠ c := fun q => by
    rw [q, kc6] at kA; cases kA
  exact q _ _ k F D A pcs ok len (by walk_at "lk") (by walk_at "lk") (by walk_at "lk") (by walk_at "lk") ((s2.old o26).ex x7 hk) (x7 _ _ (o26 _ _ kF) nF) (x7 _ _ (o6 _ _ kD5) nD) (x7 _ _ kA nA) (ne_new kD5 fA) (ne_new (o5 _ _ (o4 _ _ (o3 _ _ kF))) fA) (get_set kc6) (fun j o e n => x7 _ _ (kc _ _ e) n)
end
end Mine.Internal
end

section
open PySem
set_option autoImplicit false
namespace Mine.Internal
noncomputable def kd : DP → V
  | .t s => .tup [.str tTXT, .str s]
  | .p _ => .tup [.str tPATH, .str []]
noncomputable def kdp : DP → Part
  | .t s => (tTXT, s)
  | .p _ => (tPATH, [])
theorem kd_eq (p : DP) : kd p = tupv (kdp p) := by cases p <;> rfl
noncomputable def treeOf : DP × V → Option V
  | (.t _, _) => none
  | (.p _, .tup [_, x]) => some x
  | (.p _, _) => none
noncomputable def TreeOk (h : Hp) (sp : Sp) (v : V) : Prop :=
  ∃ n o, v = .ref n ∧ h[n]? = some o ∧ sp.G o
noncomputable abbrev Trees (h : Hp) (ps : List Sp) (vs : List V) : Prop := All2 (TreeOk h) ps vs
theorem Trees.of {h : Hp} : ∀ (zs : List (DP × V)), (∀ z ∈ zs, RP h z.1 z.2) → Trees h ((zs.map Prod.fst).filterMap DP.path?) (zs.filterMap treeOf)
  | [], _ => trivial
  | (.t s, v) :: zs, k => Trees.of zs fun z hz => k z (.tail _ hz)
  | (.p sp, v) :: zs, k => by
    obtain ⟨n, o, e, f, g⟩ := k (.p sp, v) (.head _)
    have e' : v = .tup [.str tPATH, .ref n] := e
    subst e'
    exact ⟨⟨n, o, rfl, f, g⟩, Trees.of zs fun z hz => k z (.tail _ hz)⟩
theorem Trees.old {h h' : Hp} (o : Old h h') {ps : List Sp} {vs : List V} (w : Trees h ps vs) : Trees h' ps vs :=
  All2.mono (fun zz zz zz y => y.elim fun n y => y.elim fun x y => ⟨n, x, y.1, o _ _ y.2.1, y.2.2⟩) w
section
variable {d c : Nat} {h : Hp} {E : QE}
theorem in_quotes {h : Hp} {m : Nat} {t : List Nat} (e : h[m]? = some (.list [.str [39], .str [34]])) : cmpV h .in_ (.str t) (.ref m) = some (decide (t = [39]) || (decide (t = [34]) || false)) := by
  show (match h[m]? with | some (.list vs) => memStr t vs | _ => none) = _
  rw [e]; rfl
theorem take1 {t : List Nat} (hl : t.length ≤ LIM) : cutV (.str t) none (some (.int 1)) = some (.str (t.take 1)) := if_pos ⟨by decide, hl⟩
theorem strip_of {h : Hp} {t : List Nat} (hl : t.length ≤ LIM) : strMeth h t 180 [.str [32]] = some (.str (strip1 32 t)) := if_pos hl
theorem int_of {h : Hp} {t : List Nat} (a : t ≠ []) (b : t.length ≤ 64) (e : t.all isDigit = true) : biV h .int [.str t] = some (.int (numOf t)) := if_pos ⟨a, b, e⟩
theorem zip_loop {u w : V} {sps : List Sp} {X Y : Nat} {vs : List V} {N B C : QL} {Rt : QV} (hd : d + 2 < 50) (ok : ∀ sp ∈ sps, SpOk sp) (hlen : sps.length ≤ 1000) : ∀ (r : List Sp) (i : Nat) (l : List (Nat × V)) (h : Hp), sps.drop i = r → i ≤ sps.length → h[X]? = some (.list vs) → h[Y]? = some (.list (sps.map fun sp => Pc.v (.p sp))) → Trees h sps vs → lk 155 l = some u → lk 70 l = some w →
    (∀ l' h', lk 155 l' = some u → lk 70 l' = some w → Old h h' → N l' h') → Wzip (Tg.tup [Tg.name 178, Tg.tup [Tg.name 69, Tg.name 164, Tg.name 26, Tg.name 23]]) (.ref X) (.ref Y) i [S.ife (T.and [T.cmp (Cop.in_) (T.slice (T.var 23) none (some (T.int 1))) (T.lst [T.str [39], T.str [34]]), T.cmp (Cop.ne) (T.meth (T.var 178) 24 []) (T.tup [T.str [108, 105, 116, 101, 114, 97, 108], T.var 26])]) [S.ret (some (T.bool false))] [], S.ife (T.and [T.cmp (Cop.eq) (T.meth (T.var 23) 180 [T.str [32]]) (T.var 26), T.cmp (Cop.ne) (T.meth (T.var 178) 24 []) (T.tup [T.str [110, 117, 109, 98, 101, 114], T.tup [T.bi (Bi.int) [T.var 26], T.int 1]])]) [S.ret (some (T.bool false))] []] l [(173, c)] d h N B C Rt E := by
  intro r
  induction r with
  | nil =>
    intro i l h e hi hX hY ht h155 h70 q
    have hle : sps.length ≤ i := List.drop_eq_nil_iff.mp e
    have hi2 : i = sps.length := by exact Nat.le_antisymm ‹_› ‹_›
    have e1 := src_end hX
    have e2 := src_end hY
    rw [← ht.len, ← hi2] at e1
    rw [List.length_map, ← hi2] at e2
    exact Wzip.stop e1 e2 (q l h h155 h70 Old.refl)
  | cons sp r ih =>
    intro i l h e hi hX hY ht h155 h70 q
    obtain ⟨g1, g2, g3⟩ := ldrop e
    have so := ok sp (List.mem_of_getElem? g1)
    obtain ⟨v, ev, ⟨n, o, rfl, kn, gn⟩⟩ := ht.at g1
    have tl := so.len
    refine Wzip.step (src_at hX ev) (src_at hY (by rw [List.getElem?_map, g1]; rfl)) rfl ?_
    repeat walk_at "sb"
    refine OkO.is _ (take1 (by unfold LIM; exact om4 ‹_› rfl)) ?_
    repeat walk_at "sb"
    refine New.go fun m h1 f1 k1 o1 => ?_
    refine OkO.is _ (in_quotes k1) ?_
    have second : ∀ (l2 : List (Nat × V)) (h2 : Hp), lk 155 l2 = some u → lk 70 l2 = some w → lk 178 l2 = some (.ref n) → lk 26 l2 = some (.str sp.val) → lk 23 l2 = some (.str sp.txt) → Old h h2 → wpxs [S.ife (T.and [T.cmp (Cop.eq) (T.meth (T.var 23) 180 [T.str [32]]) (T.var 26), T.cmp (Cop.ne) (T.meth (T.var 178) 24 []) (T.tup [T.str [110, 117, 109, 98, 101, 114], T.tup [T.bi (Bi.int) [T.var 26], T.int 1]])]) [S.ret (some (T.bool false))] []] l2 [(173, c)] d h2 (fun l h => Wzip (Tg.tup [Tg.name 178, Tg.tup [Tg.name 69, Tg.name 164, Tg.name 26, Tg.name 23]]) (.ref X) (.ref Y) (i + 1) [S.ife (T.and [T.cmp (Cop.in_) (T.slice (T.var 23) none (some (T.int 1))) (T.lst [T.str [39], T.str [34]]), T.cmp (Cop.ne) (T.meth (T.var 178) 24 []) (T.tup [T.str [108, 105, 116, 101, 114, 97, 108], T.var 26])]) [S.ret (some (T.bool false))] [], S.ife (T.and [T.cmp (Cop.eq) (T.meth (T.var 23) 180 [T.str [32]]) (T.var 26), T.cmp (Cop.ne) (T.meth (T.var 178) 24 []) (T.tup [T.str [110, 117, 109, 98, 101, 114], T.tup [T.bi (Bi.int) [T.var 26], T.int 1]])]) [S.ret (some (T.bool false))] []] l [(173, c)] d h N B C Rt E) (fun l h => N l h) (fun l h => Wzip (Tg.tup [Tg.name 178, Tg.tup [Tg.name 69, Tg.name 164, Tg.name 26, Tg.name 23]]) (.ref X) (.ref Y) (i + 1) [S.ife (T.and [T.cmp (Cop.in_) (T.slice (T.var 23) none (some (T.int 1))) (T.lst [T.str [39], T.str [34]]), T.cmp (Cop.ne) (T.meth (T.var 178) 24 []) (T.tup [T.str [108, 105, 116, 101, 114, 97, 108], T.var 26])]) [S.ret (some (T.bool false))] [], S.ife (T.and [T.cmp (Cop.eq) (T.meth (T.var 23) 180 [T.str [32]]) (T.var 26), T.cmp (Cop.ne) (T.meth (T.var 178) 24 []) (T.tup [T.str [110, 117, 109, 98, 101, 114], T.tup [T.bi (Bi.int) [T.var 26], T.int 1]])]) [S.ret (some (T.bool false))] []] l [(173, c)] d h N B C Rt E) Rt E := by
      intro l2 h2 a155 a70 a178 a26 a23 o2
      have goon : ∀ h3, Old h2 h3 → Wzip (Tg.tup [Tg.name 178, Tg.tup [Tg.name 69, Tg.name 164, Tg.name 26, Tg.name 23]]) (.ref X) (.ref Y) (i + 1) [S.ife (T.and [T.cmp (Cop.in_) (T.slice (T.var 23) none (some (T.int 1))) (T.lst [T.str [39], T.str [34]]), T.cmp (Cop.ne) (T.meth (T.var 178) 24 []) (T.tup [T.str [108, 105, 116, 101, 114, 97, 108], T.var 26])]) [S.ret (some (T.bool false))] [], S.ife (T.and [T.cmp (Cop.eq) (T.meth (T.var 23) 180 [T.str [32]]) (T.var 26), T.cmp (Cop.ne) (T.meth (T.var 178) 24 []) (T.tup [T.str [110, 117, 109, 98, 101, 114], T.tup [T.bi (Bi.int) [T.var 26], T.int 1]])]) [S.ret (some (T.bool false))] []] l2 [(173, c)] d h3 N B C Rt E := fun h3 o3 =>
        have o := o2.trans o3
        ih (i + 1) l2 h3 g2 g3 (o _ _ hX) (o _ _ hY) (ht.old o) a155 a70 fun l' h' x y z => q l' h' x y (o.trans z)
      repeat walk_at "sb"
      refine OkO.is _ (strip_of (by unfold LIM; exact om4 ‹_› rfl)) ?_
      repeat walk_at "sb"
      refine Br.by (fun e2 => ?_) (fun e2 => ?_)
      · obtain ⟨eo, b1, b2, b3⟩ := so.ck2 (of_decide_eq_true e2) o gn
        subst eo
        have kn2 := o2 _ _ kn
        repeat walk_at "sb"
        refine Wc.fn0 (by walk_at "dd") rfl rfl rfl rfl ?_
        repeat walk_at "sb"
        refine OkO.is _ (int_of b1 b2 b3) ?_
        repeat walk_at "sb"
        refine Br.f (by simp) ?_
        exact goon h2 Old.refl
      · refine Br.f rfl ?_
        exact goon h2 Old.refl
    refine Br.by (fun e1 => ?_) (fun e1 => ?_)
    · have eo := so.ck1 (by simpa using e1) o gn
      subst eo
      have kn1 := o1 _ _ kn
      repeat walk_at "sb"
      refine Wc.fn0 (by walk_at "dd") rfl rfl rfl rfl ?_
      repeat walk_at "sb"
      refine Br.f (by simp) ?_
      exact second _ h1 (by walk_at "lk") (by walk_at "lk") (by walk_at "lk") (by walk_at "lk") (by walk_at "lk") o1
    · refine Br.f rfl ?_
      exact second _ h1 (by walk_at "lk") (by walk_at "lk") (by walk_at "lk") (by walk_at "lk") (by walk_at "lk") o1
end
end Mine.Internal
end

section
open PySem
set_option autoImplicit false
namespace Mine.Internal
section
variable {d c : Nat} {h : Hp} {E : QE}
theorem law2 {k F D A Tn : Nat} {pcs : List Pc} {l : List (Nat × V)} {N B C : QL} {Rt : QV} (hd : d + 30 < 60) (ok : ∀ p ∈ pcs, Pc.ok p) (len : pcs.length ≤ 6) (h155 : lk 155 l = some (.ref k)) (h166 : lk 166 l = some (.ref F)) (h70 : lk 70 l = some (.str (pcs.map Pc.w).flatten)) (h167 : lk 167 l = some (.ref D)) (h143 : lk 143 l = some (.ref Tn)) (hF : h[F]? = some (.list (pcs.map Pc.v))) (hD : h[D]? = some (.list ((dueOf pcs []).map dpv))) (hA : h[A]? = some (.list [])) (DA : D ≠ A) (FA : F ≠ A) (ht : Tell h Tn c A) (q : ∀ h', Rt (.bool true) h') :
    wpxs (fi_law.body.drop 6) l [(173, c)] d h N B C Rt E := by
  have fl := flat_len ok
  have dl := due_len pcs []
  have ds := due_shown pcs [] ok
  simp only [List.length_nil, List.map_nil, List.flatten_nil, Nat.zero_add] at dl ds
  have dok : ∀ p ∈ dueOf pcs [], ∀ sp, p = DP.p sp → SpOk sp := fun p hp sp e => due_ok ok hp e
  have dpp := due_paths pcs []
  rw [List.filterMap_nil, List.nil_append] at dpp
  revert hD dl ds dok dpp
  have pd := parts_due pcs
  revert pd
  generalize dueOf pcs [] = dd
  intro pd hD dl ds dok dpp
  show wpxs [_, _, _, _, _, _, _, _] _ _ _ _ _ _ _ _ _
  repeat walk_at "sb"
  refine cm_loop (out := fun p => some (.str (DP.shown p))) hD (om17 ‹_› ‹_› rfl) (fun p hp l => ?_) dd 0 [] [] rfl (Nat.zero_le _) (by simp) ?_
  · refine ⟨_, rfl, fun KT KF a b => ?_⟩
    refine Br.t rfl ?_
    cases p with
    | t s =>
      repeat walk_at "sb"
      refine Br.t rfl ?_
      repeat walk_at "sb"
      exact a _ rfl
    | p sp =>
      have := (dok _ hp sp rfl).len
      repeat walk_at "sb"
      refine Br.f rfl ?_
      repeat walk_at "sb"
      refine OkO.is _ (add_of (by simp [LIM, DP.part]; exact om5 ‹_› rfl)) ?_
      repeat walk_at "sb"
      refine OkO.is _ (add_of (by simp [LIM, DP.part]; exact om4 ‹_› rfl)) ?_
      exact a _ rfl
  rw [List.nil_append, fm_map]
  refine New.go fun n1 h1 f1 k1 o1 => ?_
  refine OkO.is _ (join_of k1 (strs_map DP.shown dd) (by unfold LIM; omega)) ?_
  repeat walk_at "sb"
  refine c_filled (by walk_at "dd") (om17 ‹_› ‹_› rfl) DA (by simp) (fun p hp sp e => by have := (dok p hp sp e).len; exact om4 ‹_› rfl) (by unfold LIM; omega) (o1 _ _ hD) (o1 _ _ hA) (ht.old o1) fun h2 kA2 x2 => ?_
  have ht2 : Tell h2 Tn c A := (ht.old o1).ex x2 fun j e => ⟨_, e ▸ o1 _ _ hA⟩
  have hD2 := x2 _ _ (o1 _ _ hD) DA
  have hF2 := x2 _ _ (o1 _ _ hF) FA
  rw [List.nil_append, asked_eq] at kA2
  repeat walk_at "sb"
  refine Br.f (by simp) ?_
  obtain ⟨cs, et, zz, ec⟩ := ht2
  refine ⟨_, ec, ?_⟩
  repeat walk_at "sb"
  refine cm_loop (out := fun p => (DP.path? p).map fun sp => V.str sp.txt) hD2 (om17 ‹_› ‹_› rfl) (fun p hp l => ?_) dd 0 [] [] rfl (Nat.zero_le _) (by simp) ?_
  · refine ⟨_, rfl, fun KT KF a b => ?_⟩
    cases p with
    | t s =>
      repeat walk_at "sb"
      refine Br.f rfl ?_
      refine Br.f rfl ?_
      exact b rfl
    | p sp =>
      repeat walk_at "sb"
      refine Br.t rfl ?_
      refine Br.t rfl ?_
      repeat walk_at "sb"
      exact a _ rfl
  rw [List.nil_append, show (dd.filterMap fun p => (DP.path? p).map fun sp => V.str sp.txt) = ((dd.filterMap DP.path?).map Sp.txt).map V.str by rw [List.map_map, List.map_filterMap]; rfl]
  refine New.go fun n3 h3 f3 k3 o3 => ?_
  refine OkO.is _ (ne_lists (o3 _ _ kA2) k3 (eqself (eqps_strs _))) ?_
  refine Br.f rfl ?_
  repeat walk_at "sb"
  refine c_read_avt (ds := dd) (es := elsAll pcs) (by walk_at "dd") (by omega) (elsAll_ok ok) (wr_all ok).symm pd (om17 ‹_› ‹_› rfl) (fun p hp sp e => (dok p hp sp e).rd) fun M h4 vs f4 kM hr o4 => ?_
  obtain ⟨zs, rfl, rfl, hz⟩ := hr.zip
  have zl : zs.length ≤ 6 := by rw [List.length_map] at dl; exact om23 ‹_› ‹_›
  have hD4 := o4 _ _ (o3 _ _ hD2)
  have hF4 := o4 _ _ (o3 _ _ hF2)
  repeat walk_at "sb"
  rw [List.map_map] at hD4
  refine cm_loop (out := fun z => some (kd (Prod.fst z))) hD4 (om4 ‹_› rfl) (fun p hp l => ?_) zs 0 [] [] rfl (Nat.zero_le _) (by simp) ?_
  · rcases p with ⟨p | p, v⟩
    · refine ⟨_, rfl, fun KT KF a b => ?_⟩
      refine Br.t rfl ?_
      repeat walk_at "sb"
      refine Br.t rfl ?_
      repeat walk_at "sb"
      exact a _ rfl
    · refine ⟨_, rfl, fun KT KF a b => ?_⟩
      refine Br.t rfl ?_
      repeat walk_at "sb"
      refine Br.f rfl ?_
      repeat walk_at "sb"
      exact a _ rfl
  rw [List.nil_append, fm_map]
  refine New.go fun n5 h5 f5 k5 o5 => ?_
  have kM5 := o5 _ _ kM
  repeat walk_at "sb"
  refine cm_loop (out := fun z => some (kd (Prod.fst z))) kM5 (om4 ‹_› rfl) (fun p hp l => ?_) zs 0 [] [] rfl (Nat.zero_le _) (by simp) ?_
  · have hr := hz p hp
    rcases p with ⟨p | p, v⟩
    · have hr' : v = .tup [.str tTXT, .str p] := hr
      subst hr'
      refine ⟨_, rfl, fun KT KF a b => ?_⟩
      refine Br.t rfl ?_
      repeat walk_at "sb"
      refine Br.t rfl ?_
      repeat walk_at "sb"
      exact a _ rfl
    · obtain ⟨n, o, hr', zz, zz⟩ := hr
      have hr' : v = .tup [.str tPATH, .ref n] := hr'
      subst hr'
      refine ⟨_, rfl, fun KT KF a b => ?_⟩
      refine Br.t rfl ?_
      repeat walk_at "sb"
      refine Br.f rfl ?_
      repeat walk_at "sb"
      exact a _ rfl
  rw [List.nil_append, fm_map]
  refine New.go fun n6 h6 f6 k6 o6 => ?_
  repeat walk_at "sb"
  refine OkO.is _ (ne_lists k6 (o6 _ _ k5) (eqself (by
    rw [show (zs.map fun z => kd z.1) = (zs.map fun z => kdp z.1).map tupv by rw [List.map_map]; exact List.map_congr_left fun z zz => kd_eq _]
    exact eqps_parts _))) ?_
  refine Br.f rfl ?_
  have hz6 : ∀ z ∈ zs, RP h6 z.1 z.2 := fun z hzz => RP.ex (S := fun zz => False) (o5.trans o6).ex (fun j q => q.elim) (fun sp e o => (dok z.1 (List.mem_map.mpr ⟨z, hzz, rfl⟩) sp e).rd.n o) (hz z hzz)
  have kM6 := o6 _ _ (o5 _ _ kM)
  have hF6 := o6 _ _ (o5 _ _ hF4)
  repeat walk_at "sb"
  refine cm_loop (out := treeOf) kM6 (om4 ‹_› rfl) (fun p hp l => ?_) zs 0 [] [] rfl (Nat.zero_le _) (by simp) ?_
  · have hr := hz p hp
    rcases p with ⟨p | p, v⟩
    · have hr' : v = .tup [.str tTXT, .str p] := hr
      subst hr'
      refine ⟨_, rfl, fun KT KF a b => ?_⟩
      repeat walk_at "sb"
      refine Br.f rfl ?_
      refine Br.f rfl ?_
      exact b rfl
    · obtain ⟨n, o, hr', zz, zz⟩ := hr
      have hr' : v = .tup [.str tPATH, .ref n] := hr'
      subst hr'
      refine ⟨_, rfl, fun KT KF a b => ?_⟩
      repeat walk_at "sb"
      refine Br.t rfl ?_
      refine Br.t rfl ?_
      repeat walk_at "sb"
      exact a _ rfl
  rw [List.nil_append]
  have tr : Trees h6 ((zs.map Prod.fst).filterMap DP.path?) (zs.filterMap treeOf) := Trees.of zs hz6
  rw [dpp] at tr
  refine New.go fun X h7 fX kX oX => ?_
  have hF7 := oX _ _ hF6
  repeat walk_at "sb"
  refine cm_loop (out := fun p => (Pc.path? p).map fun sp => Pc.v (.p sp)) hF7 (om4 ‹_› rfl) (fun p hp l => ?_) pcs 0 [] [] rfl (Nat.zero_le _) (by simp) ?_
  · rcases p with p | p
    · refine ⟨_, rfl, fun KT KF a b => ?_⟩
      repeat walk_at "sb"
      refine Br.f rfl ?_
      refine Br.f rfl ?_
      exact b rfl
    · refine ⟨_, rfl, fun KT KF a b => ?_⟩
      repeat walk_at "sb"
      refine Br.t rfl ?_
      refine Br.t rfl ?_
      repeat walk_at "sb"
      exact a _ rfl
  rw [List.nil_append, show (pcs.filterMap fun p => (Pc.path? p).map fun sp => Pc.v (.p sp)) = (pcs.filterMap Pc.path?).map fun sp => Pc.v (.p sp) by rw [List.map_filterMap]]
  refine New.go fun Y h8 fY kY oY => ?_
  have spl : (pcs.filterMap Pc.path?).length ≤ pcs.length := List.length_filterMap_le _ _
  have kX8 := oY _ _ kX
  refine OkB.mk (by rw [isLst_list kX8, isLst_list kY]; rfl) ?_
  refine zip_loop (u := .ref k) (w := .str (pcs.map Pc.w).flatten) (by walk_at "dd") (fun sp hsp => ?_) (om17 ‹_› ‹_› rfl) (pcs.filterMap Pc.path?) 0 _ h8 rfl (Nat.zero_le _) kX8 kY (tr.old (oX.trans oY)) (by walk_at "lk") (by walk_at "lk") fun l9 h9 a155 a70 o9 => ?_
  · obtain ⟨x, hx, ex⟩ := List.mem_filterMap.mp hsp
    rcases x with x | x
    · cases ex
    · cases ex
      exact ok _ hx
  repeat walk_at "sb"
  exact c_wrong_right (es := elsAll pcs) (by walk_at "dd") (by omega) (elsAll_ok ok) (wr_all ok).symm fun h' zz => q h'
end
end Mine.Internal
end

section
open PySem PySem.W PyProof.Rows PySem.Calls PySem.SeqAt
set_option autoImplicit false
set_option maxRecDepth 100000
namespace Mine.Internal
theorem TrS.inv {kd : Kd} {st : Stmt} {t : Tg} {e' : T} (hn : isCompT e' = false) (h : TrS kd st (.asg t e')) : ∃ t0 e p, st = .Assign [t0] e p ∧ isComp e = false ∧ (isTupE e = false ∨ isName t0 = true) ∧ TrTg kd t0 t ∧ TrE kd e e' := by
  rcases h with h | ⟨_, _, _, _, _, _, _, _, -, -, hc, -⟩
  · exact h
  · rw [hn] at hc; cases hc
variable {g : Pg} {P : Tab} {r : Rec}
section
variable {A : Around} {X : Bx} {env fenv : Env} {outer : List Env} {m : Str → Option Value} {s : Shared} {ρ : Rho} {σ : Hp} {f : Fr'} {kd : Kd}
theorem E_call0 {Q E : Value → Shared → Prop} (hc : SC g r) (TE : TabE g P X.G.K) (TF : TabF P X.G.K X.kOf) {e : Expr} {gi yi : Nat} {i : Int} (h : TrE kd e (.call (.glob gi) [.var yi, .int i])) (γ : Gr g A X fenv outer f.dep) (W : EnvOK X env kd) (at_ : At X m s ρ σ) (c : Loc X env m s.heap ρ f)
    (C : Cont X (fenv :: outer) m s ρ ((lift (P.glob gi) σ).bind fun g h => (lift (lk yi f.loc) h).bind fun v h => if canCall P h g then r.call f.dep g [v, .int i] h else .no) (VRc X) (fun w s' => 0 < s'.toks → Q w s') E) : wpAny (model g.prog g.w) A (eval e env) Q E s := by
  obtain ⟨zz, zz, as, zz, rfl, hg, hs, hl⟩ := h.2
  obtain ⟨zz, zz, hn, hx, hk⟩ := hg.2
  cases hn
  have hs0 := hs
  obtain ⟨zz, zz, rfl, h1, hs⟩ := hs.inv
  obtain ⟨zz, zz, rfl, h3, hs⟩ := hs.inv
  obtain rfl := hs.inv0
  obtain ⟨zz, zz, rfl, hy, hky⟩ := h1.2
  obtain ⟨zz, zz, rfl⟩ := h3.2
  clear h h1 h3 hg hs
  refine wpAny_Call_ofName (E_glob TE hx hk W γ at_ (C.bind (RvA := VRc X) fun gv σ₁ wg s₁ ρ₁ zz x₁ V₁ C₁ => callWith_go hs0 hl ?_))
  refine wpAny_items_cons (E_var hy hky W x₁.at_ (c.after at_ x₁) (C₁.bind (RvA := VRc X) fun v σ₂ w s₂ ρ₂ zz x₂ V₂ C₂ => ?_)) (TrE.star (.var hy hky) _ _)
  refine wpAny_items_cons (wpAny_Constant_int (wpAny_items_nil ?_)) rfl
  have x₃ : After X m s₂ ρ₂ { s₂ with toks := s₂.toks + 1 } ρ₂ σ₂ := .toks x₂.at_ _
  have C₃ := C₂.after x₃
  split at C₃
  · rename_i hcan
    refine keeper_ok TF γ x₃.at_ (x₂.vr x₁.at_ V₁) hcan fun zz => wpAny_call (hc _ _ _ _ _ _ _ _ _ _ _ _ _ _ _ γ x₃.at_ (x₂.vr x₁.at_ V₁) (by
      exact ⟨V₂, ⟨_, rfl⟩, trivial⟩) (by show 0 < s₂.toks + 1; omega) (Cont.mapE C₃ (fun zz s' z hle => z (by have : s₂.toks + 1 ≤ s'.toks := hle; omega)) fun zz zz z => z))
  · exact C₃.elim
theorem S_asg0 {Q : Flow → Shared → Prop} {E : Value → Shared → Prop} (hc : SC g r) (TE : TabE g P X.G.K) (TF : TabF P X.G.K X.kOf) {st : Stmt} {gi yi ti : Nat} {i : Int} (h : TrS kd st (.asg (.name ti) (.call (.glob gi) [.var yi, .int i]))) (γ : Gr g A X env outer f.dep) (W : EnvOK X env kd) (hL : env.locals = X.L) (at_ : At X m s ρ σ) (c : Loc X env m s.heap ρ f)
    (C : ContS X (env :: outer) env f s ρ (((lift (P.glob gi) σ).bind fun g h => (lift (lk yi f.loc) h).bind fun v h => if canCall P h g then r.call f.dep g [v, .int i] h else .no).bind fun v h => .ok (.next, put ti v f.loc) h) (fun w s' => 0 < s'.toks → Q w s') E) : wpAny (model g.prog g.w) A (exec st env) Q E s := by
  obtain ⟨zz, zz, zz, rfl, h1, h2, htg, he⟩ := TrS.inv rfl h
  refine Assign_one h1 (h2.elim noSwap noSwapN) (htg.star [] env) (E_call0 hc TE TF he γ W at_ c (C.bindE (RvA := VRc X) fun v σ₁ w s₁ ρ₁ zz x₁ V₁ C₁ k₁ => ?_))
  exact asg_ok W hL γ.hh htg x₁.at_ (c.after at_ x₁) V₁ rfl fun m₂ s₂ st => C₁ .next s₂ ρ₁ m₂ st.after rfl st.loc (Nat.lt_of_lt_of_le k₁ st.toks)
end
end Mine.Internal
end

section
open PySem PySem.W PyProof.Rows PySem.Calls PySem.SeqAt
set_option autoImplicit false
set_option maxRecDepth 100000
namespace Mine.Internal
section
variable {G : Gd} {kOf : Nat → FuncData → Prop} {h h' : Heap} {ρ : Rho} {T : Addr}
theorem VR.tab (hP : h.get? T = some (tabObj #[])) (hx : Heap.ExtBut T h h') : (∀ (v : V) (w : Value), VR G h ρ v w → VR G h' ρ v w) ∧ ∀ (v : List V) (w : List Value), VRs G h ρ v w → VRs G h' ρ v w := by
  have h1 : ∀ b ws, ¬ G.bad b → IsTup h b ws → IsTup h' b ws := fun b ws zz t => by
    obtain ⟨o, e, hc, r⟩ := t
    refine ⟨o, hx b o (fun q => ?_) e, hc, r⟩
    rw [q, hP] at e; cases e; cases hc
  have h2 : ∀ a n t u v, IsRange h a 0 n 1 t u v → IsRange h' a 0 n 1 t u v := fun a n t u v e => hx a _ (fun q => by
    have e' : h.get? a = some _ := e
    rw [q, hP] at e'; cases e') e
  exact ⟨VR.mono h1 h2 (fun zz zz e => e), VRs.mono h1 h2 (fun zz zz e => e)⟩
theorem OR.tab (hP : h.get? T = some (tabObj #[])) (hx : Heap.ExtBut T h h') {o : O} {p : Addr × Addr} (hp : p.2 ≠ T) (y : OR G kOf h ρ o p) : OR G kOf h' ρ o p := by
  obtain ⟨H, Hs⟩ := VR.tab (G := G) (ρ := ρ) hP hx
  cases o with
  | list vs => obtain ⟨q, ws, n, a, b⟩ := y; exact ⟨q, ws, n, hx _ _ hp a, Hs _ _ b⟩
  | inst C fs =>
    obtain ⟨q, es, n, a, b⟩ := y
    exact ⟨hx _ _ (fun z => by rw [z, hP] at q; cases q) q, es, n, hx _ _ hp a, FRel.mono H _ _ b⟩
  | cell v =>
    obtain ⟨q, o, w, a, b, c⟩ := y
    refine ⟨q, o, w, hx _ _ hp a, b, ?_⟩
    cases v <;> cases w <;> first | exact c | exact H _ _ c
  | clos k cs =>
    obtain ⟨q, o, fd, a, b, c, d, ⟨cc, oc, vs, t, c1, c2, c3, c4⟩, f⟩ := y
    refine ⟨q, o, fd, hx _ _ hp a, b, c, d, ⟨cc, oc, vs, t, c1, hx _ _ (fun z => ?_) c2, c3, c4⟩, f⟩
    rw [z, hP] at c2; cases c2; cases c3; cases c4
end
theorem At.tab {X : Bx} {m : Str → Option Value} {s : Shared} {ρ : Rho} {σ : Hp} {h' : Heap} {tk : Nat} {T : Addr} (a : At X m s ρ σ) (hP : s.heap.get? T = some (tabObj #[])) (hL : T ∉ X.fa) (hρ : ∀ p ∈ ρ, p.2 ≠ T) (h0 : X.h₀.get? T = none) (hx : Heap.ExtBut T s.heap h') (hP' : ∃ o, h'.get? T = some o) :
    At X m { s with heap := h', toks := tk } ρ σ := by
  have fr : Fr X.h₀ X.L h' m := ⟨a.fr.ns.extBut hx (fun q => hL (q ▸ .head _)), fun b o e => hx b o (fun q => by rw [q, h0] at e; cases e) (a.fr.keep b o e), a.fr.above⟩
  refine ⟨fr, ⟨a.rel.len, fun n o e => ?_, a.rel.new, a.rel.nod, fun b hb => ?_⟩, fun q hq => ?_, a.apart, a.bad_of fun b o e => ?_⟩
  · obtain ⟨p, hp, ho⟩ := a.rel.obj n o e
    exact ⟨p, hp, ho.tab hP hx (hρ p (List.mem_of_getElem? hp))⟩
  · obtain ⟨o, e, r⟩ := a.rel.mutF b hb
    exact ⟨o, hx b o (fun q => hL (q ▸ hb)) e, r⟩
  · obtain ⟨sl, e⟩ := a.out q hq
    exact ⟨sl, hx _ _ (fun z => hL (z ▸ List.mem_cons_of_mem _ (List.mem_map_of_mem (f := Prod.fst) hq))) e⟩
  · by_cases q : b = T
    · exact q ▸ hP'
    · exact ⟨o, hx b o q e⟩
theorem Loc.tab {X : Bx} {env : Env} {m : Str → Option Value} {h h' : Heap} {ρ : Rho} {f : Fr'} {T : Addr} (hL : env.locals = X.L) (c : Loc X env m h ρ f) (hP : h.get? T = some (tabObj #[])) (hx : Heap.ExtBut T h h') : Loc X env m h' ρ f := by
  obtain ⟨⟨mC, hl, hv⟩, hc⟩ := c
  have hl' : mC = m := by
    rcases hl with hl | ⟨h1, _⟩
    · exact hl.2
    · exact absurd (hL ▸ List.mem_cons_self) h1
  refine ⟨⟨mC, .inl ⟨hL, hl'⟩, fun x v e => ?_⟩, hc⟩
  obtain ⟨z, w, e1, e2, e3⟩ := hv x v e
  exact ⟨z, w, e1, e2, (VR.tab hP hx).1 _ _ e3⟩
end Mine.Internal
end

section
open PySem PySem.W PyProof.Rows PySem.Calls PySem.SeqAt
set_option autoImplicit false
set_option maxRecDepth 100000
namespace Mine.Internal
section
variable {g : Pg} {P : Tab} {r : Rec} {A : Around} {X : Bx} {env : Env} {outer : List Env} {kd : Kd} {E : Value → Shared → Prop} {tail : List Stmt}
theorem E_exsK (hx : SX g r) (W : EnvOK X env kd) (hL : env.locals = X.L) (hE : PassesOwn (model g.prog g.w) A env E) : ∀ {ss : List Stmt} {ts : List S} {f : Fr'} {m : Str → Option Value} {σ : Hp} {s : Shared} {ρ : Rho} {Q : Flow → Shared → Prop}, TrSs kd ss ts → Gr g A X env outer f.dep →
    At X m s ρ σ → Loc X env m s.heap ρ f → 0 < s.toks → ContS X (env :: outer) env f s ρ (exs r ts f σ) (fun w s' => s.toks ≤ s'.toks → match w with | .next => wpAny (model g.prog g.w) A (execs tail env) Q E s' | w => Q w s') E → wpAny (model g.prog g.w) A (execs (ss ++ tail) env) Q E s := by
  intro ss ts
  induction ts generalizing ss with
  | nil =>
    intro f m σ s ρ Q h γ at_ c tk C
    obtain rfl := h.inv0
    exact ContS.ok (w := .next) at_ C rfl c (Nat.le_refl _)
  | cons zz ts ih =>
    intro f m σ s ρ Q h γ at_ c tk C
    obtain ⟨zz, ss, rfl, h, hs⟩ := h.inv
    refine wpAny_execs_cons (hx _ _ _ _ _ _ _ _ _ _ _ _ _ _ h γ W hL at_ c tk hE (ContS.bind C fun fl lo σ₁ w s₁ ρ₁ m₁ e x₁ y₁ c₁ C₁ k₁ => ?_))
    cases fl with
    | next =>
      cases y₁
      exact ih (f := ⟨lo, f.cel, f.dep⟩) hs γ x₁.at_ c₁ (om22 ‹_› ‹_›) (ContS.mapQ C₁ fun b s' x k => x (om23 ‹_› ‹_›))
    | brk => cases y₁; exact ContS.ok (w := .brk) x₁.at_ C₁ rfl c₁ ‹_›
    | cont => cases y₁; exact ContS.ok (w := .cont) x₁.at_ C₁ rfl c₁ ‹_›
    | ret v => obtain ⟨z, rfl, y⟩ := y₁; exact ContS.ok (w := .ret z) x₁.at_ C₁ ⟨z, rfl, y⟩ c₁ ‹_›
end
theorem TrSs.hd {kd : Kd} {s : Stmt} {ss : List Stmt} {ts : List S} (h : TrSs kd (s :: ss) ts) : TrS kd s (ts.headD .junk) ∧ TrSs kd ss ts.tail := by
  cases ts with
  | nil => cases (h : s :: ss = [])
  | cons t ts =>
    obtain ⟨zz, zz, q, h⟩ := h
    cases q
    exact h
structure Mid (l : List (Nat × V)) (h : Hp) : Prop where
  p : ∃ k F D A, ∃ pcs : List Pc, (∀ p ∈ pcs, Pc.ok p) ∧ pcs.length ≤ 6 ∧ lk 155 l = some (.ref k) ∧ lk 166 l = some (.ref F) ∧ lk 70 l = some (.str (pcs.map Pc.w).flatten) ∧ lk 167 l = some (.ref D) ∧ h[F]? = some (.list (pcs.map Pc.v)) ∧ h[D]? = some (.list ((dueOf pcs []).map dpv)) ∧ h[A]? = some (.list []) ∧ D ≠ A ∧ F ≠ A ∧ h[0]? = some (.cell (some (.ref A)))
noncomputable abbrev noR : QV := fun zz zz => False
noncomputable abbrev noE : QE := fun zz zz zz => False
theorem law1_run {zs : List Int} (hz : zs.length ≤ 1000) : ∃ l σ N, Mid l σ ∧ ∀ n, N ≤ n → exs (run PT n) (fi_law.body.take 5) ⟨[(148, .lst (zs.map .int))], [(173, 0)], 0⟩ [.cell none] = .ok (.next, l) σ := by
  obtain ⟨r, N, hn, hs⟩ := (wpxs_ok _ _ _ _ _ _ _ _ _ _ (law1 (d := 0) (c := 0) (h := [.cell none]) (zs := zs) (N := Mid) (B := noL) (C := noL) (Rt := noR) (E := noE) (by omega) hz rfl
    fun l' h' k F D A pcs a1 a2 a3 a4 a5 a6 zz a7 a8 a9 a10 a11 a12 zz => ⟨k, F, D, A, pcs, a1, a2, a3, a4, a5, a6, a7, a8, a9, a10, a11, a12⟩)).p
  cases r with
  | ok p σ =>
    obtain ⟨fl, l⟩ := p
    cases fl with
    | next => exact ⟨l, σ, N, hs, hn⟩
    | brk => exact False.elim hs
    | cont => exact False.elim hs
    | ret v => exact False.elim hs
  | ex c m σ => exact False.elim hs
  | no => exact False.elim hs
theorem law2_run {l : List (Nat × V)} {σ : Hp} (M : Mid l σ) : ∃ lo σ' N, ∀ n, N ≤ n → exs (run PT n) (fi_law.body.drop 6) ⟨put 143 (.ref σ.length) l, [(173, 0)], 0⟩ (σ ++ [.clos 0 [(173, 0)]]) = .ok (.ret (.bool true), lo) σ' := by
  obtain ⟨k, F, D, A, pcs, a1, a2, a3, a4, a5, a6, a7, a8, a9, a10, a11, a12⟩ := M.p
  have ap : ∀ {j : Nat} {o : O}, σ[j]? = some o → (σ ++ [O.clos 0 [(173, 0)]])[j]? = some o := fun {j o} e => by rw [List.getElem?_append_left (lt_of e)]; exact e
  obtain ⟨r, N, hn, hs⟩ := (wpxs_ok _ _ _ _ _ _ _ _ _ _ (law2 (d := 0) (c := 0) (h := σ ++ [.clos 0 [(173, 0)]]) (l := put 143 (.ref σ.length) l) (Tn := σ.length) (N := noL) (B := noL) (C := noL) (Rt := fun v zz => v = .bool true) (E := noE) (by omega) a1 a2 ((lk_ne rfl).trans a3) ((lk_ne rfl).trans a4) ((lk_ne rfl).trans a5) ((lk_ne rfl).trans a6) lk_put (ap a7) (ap a8) (ap a9) a10 a11
    ⟨[(173, 0)], by rw [List.getElem?_append_right (Nat.le_refl _), Nat.sub_self]; rfl, rfl, ap a12⟩ fun h' => rfl)).p
  cases r with
  | ok p σ' =>
    obtain ⟨fl, lo⟩ := p
    cases fl with
    | next => exact False.elim hs
    | brk => exact False.elim hs
    | cont => exact False.elim hs
    | ret v =>
      have hs : v = .bool true := hs
      subst hs
      exact ⟨lo, σ', N, hn⟩
  | ex c m σ => exact False.elim hs
  | no => exact False.elim hs
end Mine.Internal
end

section
open PySem PySem.W PyProof.Rows PySem.Calls PySem.SeqAt
set_option autoImplicit false
set_option maxRecDepth 100000
namespace Mine.Internal
theorem law_body {g : Pg} {X : Bx} {A : Around} {env : Env} {kd : Kd} {m : Str → Option Value} {s : Shared} {a0 : Addr} {zs : List Int} {Q : Flow → Shared → Prop} {E : Value → Shared → Prop}
    {s0 s1 s2 s3 s4 : Stmt} {post : List Stmt} {name : Str} {params : Arguments} {tb : List Stmt} {tsc : Scope} {tpos : PySem.Pos} {clos : List (Str × Addr)}
    (hR : Rows g.w.params g.K) (hk : g.kOf = kOfT g.K)
    (γ : Gr g A X env [] 0) (W : EnvOK X env kd) (hL : env.locals = X.L) (at_ : At X m s [(a0, a0)] [.cell none])
    (c : Loc X env m s.heap [(a0, a0)] ⟨[(148, .lst (zs.map .int))], [(173, 0)], 0⟩) (hE : PassesOwn (model g.prog g.w) A env E)
    (hP : s.heap.get? 847 = some (tabObj #[])) (h0 : X.h₀.get? 847 = none) (hfa : 847 ∉ X.fa) (ha : a0 ≠ 847)
    (hcode : env.code = .ref 849) (CH : CodeHd X.h₀ 849 847)
    (tr : TrSs kd (s0 :: s1 :: s2 :: s3 :: s4 :: .FunctionDef name params tb [] none [] tsc none name tpos :: post) fi_law.body)
    (hn : nm[143]? = some name) (hkn : kd name = some .local) (trT : TrFn params tsc tb fi_tell)
    (hd0 : params.defaults = []) (hk0 : params.kw_defaults = []) (han : annTrees params none env = [])
    (hcl : closureFor tsc env = pure clos) (hlk : ∀ x, nm[173]? = some x → clos.lookup x = env.cells.lookup x)
    (hz : zs.length ≤ 1000)
    (fin : ∀ s' m', (∃ h' tk', s' = { s with heap := h', toks := tk' }) → Fr X.h₀ X.L s'.heap m' → (∃ ps, s'.heap.get? 847 = some (tabObj ps)) → Q (.ret (.bool true)) s') :
    wpAny (model g.prog g.w) A (execs (s0 :: s1 :: s2 :: s3 :: s4 :: .FunctionDef name params tb [] none [] tsc none name tpos :: post) env) Q E s := by
  have Y := hR.tabs hk
  have YX : TabX PT g.K := hR.tabX
  have YA := Y.at γ
  have snd := fun k => sound Y YX k k (Nat.le_refl _)
  obtain ⟨l₁, σ₁, N₁, M, e₁⟩ := law1_run (zs := zs) hz
  obtain ⟨lo, σ₃, N₂, e₂⟩ := law2_run M
  have t0 : TrS kd s0 (.asg (.name 155) (.call (.glob 147) [.var 148, .int 0])) := tr.hd.1
  have r1 := tr.hd.2
  have r2 := r1.hd.2
  have r3 := r2.hd.2
  have r4 := r3.hd.2
  have r5 := r4.hd.2
  have tpost : TrSs kd post (fi_law.body.drop 6) := r5.hd.2
  have tpre : TrSs kd [s1, s2, s3, s4] ((fi_law.body.take 5).tail) := .cons r1.hd.1 (.cons r2.hd.1 (.cons r3.hd.1 (.cons r4.hd.1 rfl)))
  -- behind the first five
  have rest : ∀ s' ρ' m', After X m' s [(a0, a0)] s' ρ' σ₁ → Loc X env m' s'.heap ρ' ⟨l₁, [(173, 0)], 0⟩ → 0 < s'.toks → wpAny (model g.prog g.w) A (execs (.FunctionDef name params tb [] none [] tsc none name tpos :: post) env) Q E s' := by
    intro s₁ ρ₁ m₁ x₁ c₁ tk₁
    have ne1 : ∀ p ∈ ρ₁, p.2 ≠ 847 := fun p hp q => by
      obtain ⟨t, e, ht⟩ := x₁.ext.pre
      rw [e] at hp
      rcases List.mem_append.mp hp with hp | hp
      · rw [List.mem_singleton.mp hp] at q; exact ha q
      · have := ht p hp; rw [q, hP] at this; cases this
    have ne0 : ∀ p ∈ [(a0, a0)], p.2 ≠ 847 := fun p hp q => by rw [List.mem_singleton.mp hp] at q; exact ha q
    have hP₁ : s₁.heap.get? 847 = some (tabObj #[]) := x₁.ext.keep _ _ hP ne0 hfa
    have hg := γ.T.g.keeps x₁.at_.fr.keep
    have hgP : mainGlobals ≠ 847 := by decide
    have hb : s₁.heap.BuiltinsAt g.mg 847 := by
      obtain ⟨bm, ob, b1, b2, b3, b4, b5, b6⟩ := γ.T.bmain
      have hbP : bm ≠ 847 := fun q => by rw [q, h0] at b3; cases b3
      have hbG : bm ≠ mainGlobals := fun q => by
        obtain ⟨o, es, ep, e, hd, zz⟩ := γ.T.g
        rw [q, e] at b3; cases b3; rw [hd] at b6; cases b6
      exact ⟨bm, ob, b1, b2, hbG, hbP, x₁.at_.fr.keep _ _ b3, b4, b5, b6⟩
    refine wpAny_execs_cons (wpAny_tkQ (nestDef_K hd0 hk0 han (makeFunction_K (mg := g.mg) (clos := clos) (ps := #[]) hcl W.glob hg hcode (CH.keeps x₁.at_.fr.keep) hP₁ trivial rfl hgP hb fun c' ctv doc h' tk hx hge hlt hrec htb => ?_)))
    have at₁ : At X m₁ { s₁ with heap := h', toks := tk } ρ₁ σ₁ := x₁.at_.tab hP₁ hfa ne1 h0 hx ⟨_, htb⟩
    have c₁' : Loc X env m₁ h' ρ₁ ⟨l₁, [(173, 0)], 0⟩ := c₁.tab hL hP₁ hx
    have hnew : h'.get? h'.objs.size = none := Heap.get?_none_of_le (Nat.le_refl _)
    have kk : ∀ (fo : Obj) b o, h'.get? b = some o → (h'.push fo).get? b = some o := fun fo b o e => Heap.get?_push_of_some _ e
    have hno : h'.objs.size ≠ 847 := fun q => by rw [q, htb] at hnew; cases hnew
    obtain ⟨x173, p0, n1, n2, n3⟩ := c₁.cel 173 0 rfl
    have x₂ : After X m₁ { s₁ with heap := h', toks := tk } ρ₁ { s₁ with heap := h'.push (fnMade name (qualnameIn env name name) params tb tsc clos doc ((g.mg "__name__").getD .none) c' ctv), toks := tk } (ρ₁ ++ [(h'.objs.size, h'.objs.size)]) (σ₁ ++ [.clos 0 [(173, 0)]]) := by
      refine After.new (s := { s₁ with heap := h', toks := tk }) at₁ (at₁.fr.push _) (fun b o e zz => kk _ b o e) hnew ?_
      refine ⟨rfl, _, _, Heap.get?_push_size _ rfl, rfl, rfl, ?_, ?_, fun x n e => ?_⟩
      · rw [γ.kk.2, hk]
        intro fi hfi
        have hfi : some fi_tell = some fi := hfi
        cases hfi
        exact ⟨⟨tb, rfl, trT⟩, rfl, rfl, .inl ⟨rfl, rfl⟩⟩
      · obtain ⟨cc, oc, vs, t, q1, q2, q3, q4⟩ := hrec
        exact ⟨cc, oc, vs, t, q1, kk _ _ _ q2, q3, q4⟩
      · have hx' : x = 173 ∧ n = 0 := by
          have e' : (if Nat.beq x 173 then some 0 else none) = some n := e
          split at e'
          · rename_i hb
            cases e'
            exact ⟨Nat.eq_of_beq_eq_true hb, rfl⟩
          · cases e'
        obtain ⟨rfl, rfl⟩ := hx'
        exact ⟨x173, p0, n1, by rw [List.getElem?_append_left (List.getElem?_eq_some_iff.mp n2).1]; exact n2, (hlk _ n1).trans n3⟩
    have c₂ := c₁'.after at₁ x₂
    have hlen : ρ₁[σ₁.length]? = none := List.getElem?_eq_none (Nat.le_of_eq x₁.at_.rel.len)
    refine store_name hn hkn W hL x₂.at_ c₂ (v := .ref σ₁.length) (by
      exact ⟨_, by rw [List.getElem?_append_right (Nat.le_of_eq x₁.at_.rel.len), x₁.at_.rel.len, Nat.sub_self]; rfl, rfl⟩) fun m₃ s₃ st => ?_
    intro kt
    have ne2 : ∀ p ∈ ρ₁ ++ [(h'.objs.size, h'.objs.size)], p.2 ≠ 847 := fun p hp => by
      rcases List.mem_append.mp hp with hp | hp
      · exact ne1 p hp
      · rw [List.mem_singleton.mp hp]; exact hno
    have hP₃ : s₃.heap.get? 847 = some (tabObj (#[] ++ #[rawInt tpos.line, rawInt tpos.col, .ref c'])) := st.after.ext.keep _ _ (kk _ _ _ htb) ne2 hfa
    refine E_exs (f := ⟨put 143 (.ref σ₁.length) l₁, [(173, 0)], 0⟩) (snd N₂).2.2.1 W hL hE tpost γ st.after.at_ st.loc (om22 ‹_› ‹_›) ?_
    rw [e₂ N₂ (Nat.le_refl _)]
    intro w s₄ ρ₄ m₄ x₄ y₄ c₄ k₄
    obtain ⟨z, rfl, y⟩ := y₄
    subst y
    refine fin s₄ m₄ ?_ x₄.at_.fr ⟨_, x₄.ext.keep _ _ hP₃ ne2 hfa⟩
    obtain ⟨h1, t1, q1⟩ := x₁.eq
    obtain ⟨h3, t3, q3⟩ := st.after.eq
    obtain ⟨h4, t4, q4⟩ := x₄.eq
    exact ⟨h4, t4, by rw [q4, q3, q1]⟩
  have C : ContS X (env :: []) env ⟨[(148, .lst (zs.map .int))], [(173, 0)], 0⟩ s [(a0, a0)] (exs (run PT (N₁ + 3)) (fi_law.body.take 5) ⟨[(148, .lst (zs.map .int))], [(173, 0)], 0⟩ [.cell none]) (fun w s' => 0 < s'.toks → match w with | Flow.next => wpAny (model g.prog g.w) A (execs (.FunctionDef name params tb [] none [] tsc none name tpos :: post) env) Q E s' | w => Q w s') E := by
    rw [e₁ (N₁ + 3) (Nat.le_add_right _ _)]
    intro w s' ρ' m' x y c' tk'
    cases y
    exact rest s' ρ' m' x c' tk'
  have C0 : ContS X (env :: []) env ⟨[(148, .lst (zs.map .int))], [(173, 0)], 0⟩ s [(a0, a0)] (((((lift (PT.glob 147) [.cell none]).bind fun g h => (lift (lk 148 [(148, V.lst (zs.map .int))]) h).bind fun v h => if canCall PT h g then (run PT (N₁ + 1)).call 0 g [v, .int 0] h else .no)).bind fun v h => (R.ok (Fl.next, put 155 v [(148, .lst (zs.map .int))]) h : R (Fl × List (Nat × V)))).bind fun (x : Fl × List (Nat × V)) (h : Hp) => (match x with
      | (fl, l) => match fl with
        | .next => exs (run PT (N₁ + 3)) ((fi_law.body.take 5).tail) ⟨l, [(173, 0)], 0⟩ h
        | _ => .ok (fl, l) h : R (Fl × List (Nat × V)))) (fun w s' => 0 < s'.toks → match w with | Flow.next => wpAny (model g.prog g.w) A (execs (.FunctionDef name params tb [] none [] tsc none name tpos :: post) env) Q E s' | w => Q w s') E := C
  refine wpAny_execs_cons (S_asg0 (snd (N₁ + 1)).2.2.2 YA.e YA.f t0 γ W hL at_ c (ContS.bind C0 fun fl lo σ w s₁ ρ₁ m₁ e x₁ y₁ c₁ C₁ k₁ => ?_))
  cases fl with
  | next =>
    cases y₁
    exact E_exsK (f := ⟨lo, [(173, 0)], 0⟩) (snd (N₁ + 3)).2.2.1 W hL hE tpre γ x₁.at_ c₁ k₁ (ContS.mapQ C₁ fun b s' x k => x (om22 ‹_› ‹_›))
  | brk => cases y₁; exact ContS.ok (w := .brk) x₁.at_ C₁ rfl c₁ k₁
  | cont => cases y₁; exact ContS.ok (w := .cont) x₁.at_ C₁ rfl c₁ k₁
  | ret v => obtain ⟨z, rfl, y⟩ := y₁; exact ContS.ok (w := .ret z) x₁.at_ C₁ ⟨z, rfl, y⟩ c₁ k₁
end Mine.Internal
end

section
open PySem PySem.W PyProof.Rows PySem.Calls PySem.SeqAt
set_option autoImplicit false
set_option maxRecDepth 100000
namespace Mine.Internal
theorem ints_vr {G : Gd} {h : Heap} {ρ : Rho} : ∀ {vs : List Value} {zs : List Int}, IntsAre vs zs → VRs G h ρ (zs.map .int) vs
  | _, _, .nil => trivial
  | _, _, .cons n t r => by
    exact ⟨⟨t, rfl⟩, ints_vr r⟩
theorem law_entry {prog : Program} {w : World} {A : Around} {env : Env} {h₀ : Heap} {L sa : Addr} {sv : List Value} {m mg mb : Str → Option Value} {loose : List Str} {mean : ExcName → Option Value} {s : Shared} {wc : Obj} {zs : List Int} {Q : Flow → Shared → Prop} {E : Value → Shared → Prop}
    {K : Frag} {s0 s1 s2 s3 s4 : Stmt} {post : List Stmt} {name : Str} {params prm : Arguments} {tb : List Stmt} {tsc : Scope} {tpos : PySem.Pos} {clos : List (Str × Addr)}
    (X : K.In h₀) (R : Rows w.params K) (T : Top topProg loose mean mg mb h₀) (F : Fr h₀ L s.heap m) (hl : h₀.IsList sa sv.toArray) (hI : IntsAre sv zs) (N : News h₀ L s.heap [(L + 1, wc), (847, tabObj #[])]) (CH : CodeHd h₀ 849 847)
    (hz : zs.length ≤ 1000) (hwc : wc.data = .cell none) (hm : m "script" = some (.ref sa))
    (hfr : A.frames = some [env]) (hh : A.handled = none) (hd : A.depth ≤ 302) (hu : A.units ≤ 20)
    (hkind : env.scope.kind = .function) (hglob : env.globals = mainGlobals) (hframe : env.frame = some L) (hbl : env.builtins = builtinsNs) (hloc : env.locals = L) (hcode : env.code = .ref 849) (hcells : env.cells.lookup ("asked" : Str) = some (L + 1))
    (hkd : ∀ x, env.kindOf x = kdOf env.scope x) (hE : PassesOwn (model prog w) A env E)
    (trL : TrFn prm env.scope (s0 :: s1 :: s2 :: s3 :: s4 :: .FunctionDef name params tb [] none [] tsc none name tpos :: post) fi_law)
    (hn : nm[143]? = some name) (hkn : kdOf env.scope name = some .local) (trT : TrFn params tsc tb fi_tell)
    (hd0 : params.defaults = []) (hk0 : params.kw_defaults = []) (han : annTrees params none env = [])
    (hcl : closureFor tsc env = pure clos) (hlk : clos.lookup ("asked" : Str) = env.cells.lookup ("asked" : Str))
    (fin : ∀ s' m', (∃ h' tk', s' = { s with heap := h', toks := tk' }) → Fr h₀ L s'.heap m' → (∃ ps, s'.heap.get? 847 = some (tabObj ps)) → Q (.ret (.bool true)) s') :
    wpAny (model prog w) A (execs (s0 :: s1 :: s2 :: s3 :: s4 :: .FunctionDef name params tb [] none [] tsc none name tpos :: post) env) Q E s := by
  obtain ⟨n1, n2, n3⟩ := N (L + 1, wc) (.head _)
  obtain ⟨q1, q2, q3⟩ := N (847, tabObj #[]) (.tail _ (.head _))
  dsimp only at n1 n2 n3 q1 q2 q3
  have ha : L + 1 ≠ 847 := fun q => by
    rw [q, q1] at n1
    cases n1
    cases hwc
  let G : Gd := ⟨K, sa, sv, fun zz => False⟩
  let X0 : Bx := ⟨G, kOfT K, h₀, L, []⟩
  let g : Pg := ⟨prog, w, topProg, loose, mean, mg, mb, K, kOfT K⟩
  have at_ : At X0 m s [(L + 1, L + 1)] [.cell none] := by
    refine ⟨F, ⟨rfl, fun n o e => ?_, fun p hp => ?_, by simp, fun b hb => ?_⟩, (fun zz hq => nomatch hq), (fun zz hq => nomatch hq), fun zz q => q.elim⟩
    · match n, e with
      | 0, e =>
        cases e
        refine ⟨_, rfl, ?_⟩
        exact ⟨rfl, wc, none, n1, hwc, trivial⟩
    · rw [List.mem_singleton.mp hp]
      exact ⟨n3, fun q => n2 (List.mem_singleton.mp q)⟩
    · rw [List.mem_singleton.mp hb]
      obtain ⟨o, es, n, e, d, zz⟩ := F.ns
      exact ⟨o, e, es, n, d⟩
  have γ : Gr g A X0 env [] 0 := ⟨X, T, hl, hfr, hframe, hkind, trivial, hh, hd, hu, by exact Nat.zero_le _, rfl, rfl⟩
  have W : EnvOK X0 env (kdOf env.scope) := ⟨hkind, hglob, hkd, hframe, hbl⟩
  have c : Loc X0 env m s.heap [(L + 1, L + 1)] ⟨[(148, .lst (zs.map .int))], [(173, 0)], 0⟩ := by
    refine ⟨⟨m, .inl ⟨hloc, rfl⟩, fun x v e => ?_⟩, fun x n e => ?_⟩
    · have e' : (if Nat.beq x 148 then some (V.lst (zs.map .int)) else none) = some v := e
      split at e'
      · rename_i hb
        cases e'
        rw [Nat.eq_of_beq_eq_true hb]
        refine ⟨"script", _, rfl, hm, ?_⟩
        exact ⟨rfl, ints_vr hI⟩
      · cases e'
    · have e' : (if Nat.beq x 173 then some 0 else none) = some n := e
      split at e'
      · rename_i hb
        cases e'
        rw [Nat.eq_of_beq_eq_true hb]
        exact ⟨"asked", _, rfl, rfl, hcells⟩
      · cases e'
  refine law_body (g := g) (X := X0) (kd := kdOf env.scope) R rfl γ W hloc at_ c hE q1 q3 (fun q => q2 (List.mem_singleton.mp q)) ha hcode CH trL.body hn hkn trT hd0 hk0 han hcl (fun x hx => ?_) hz fin
  have hx' : some ("asked" : Str) = some x := hx
  cases hx'
  exact hlk
end Mine.Internal
end

section
open PySem PySem.W PyProof.Rows
set_option autoImplicit false
set_option maxRecDepth 100000
namespace Mine.Internal
theorem said_looks : looksOpen PySem.Challenge.rw_on0198_01.row.prog = true := by
  unfold looksOpen
  rewrite [PySem.W.Fast.te8377067652309620493, PySem.W.Fast.te8326940854005059898, PySem.W.Fast.te17119622794617984870, PySem.W.Fast.te18344453789297297638]
  repeat' (with_reducible refine look_both ?_ ?_)
  all_goals decide +kernel
theorem said_part : PySem.Challenge.rw_on0198_01.row.partSaid = true := by
  unfold OpenRow.partSaid
  rewrite [said_looks, PySem.W.Fast.named_eq, PySem.W.Fast.te13582783067957832011, PySem.W.Fast.te18344453789297297638]
  kernel_rfl
theorem said_row : PySem.Challenge.rw_on0198_01.row.wellSaid = true := by
  unfold OpenRow.wellSaid
  rewrite [said_part]
  kernel_rfl
theorem said_law : PySem.Challenge.rw_on0198_01.wellSaid = true := by
  unfold OpenLaw.wellSaid
  rewrite [said_row, PySem.W.Fast.te8326940854005059898, PySem.W.Fast.te17119622794617984870, PySem.W.Fast.named_eq]
  repeat' (with_reducible refine look_both ?_ ?_)
  all_goals decide +kernel
end Mine.Internal
end

section
open Mine.Internal
open PySem PySem.W PyProof.Rows PySem.Calls PySem.SeqAt
set_option autoImplicit false
set_option maxRecDepth 100000
set_option maxHeartbeats 8000000 in
theorem PySem.Challenge.cw_on0198_01_holds : PySem.Challenge.rw_on0198_01.Holds := by
  w_on
  refine holds_law said_law fun said => ?_
  refine holds_open (q := qv) (loose := looseQ) (Xt := Xq) (XP := XL qv []) (Yf := Hook.obs hookR) (Ya := Hook.val hookR) (YP := Hook.says hookR) (N := 8000) leftQ (Hook.of hookR) (Hook.keeps hookR) (fun s e => xl_of s (Bool.and_eq_true_iff.mp e).1) XL.keeps (by rfl) (by rfl) (by rfl) (fun s e => recFacts_of (Bool.and_eq_true_iff.mp e).2) (by rfl) (by first | assumption | decide +kernel) (by decide +kernel) ⟨rfl, rfl, rfl, rfl, rfl, by decide +kernel⟩ ?hw ?hc
  case hw => w_witness2
  intro w s₀ s₁ mg mb G Y fa o pm cd doc dV kV ho hd hcd hD hmg hg args vals as hpre hlay hrd hwl hlo
  obtain ⟨K, KX, KR⟩ := Y
  refine Ground.open G ?_
  intro T B D TE TW
  clear G B D TE TW
  have hT9 : TabsAt ([(849, 847)] : List (Addr × Addr)) _ := List.forall_mem_cons.mpr ⟨tab_of (x := "law") (c := 849) (P := 847) T KX rfl KR.ex.2.2.2.2.2.1, (fun zz h => nomatch h)⟩
  have he9 : cd = .ref 849 := law_code (x := "law") (c := 849) (P := 847) KX (Top.g T) KR.ex.2.2.2.2.2.1 hmg ho hd
  subst he9
  clear hmg
  wrow_args hpre hlay hrd hwl hlo
  first | refine callC_kw (enter_call ?_) | refine enter_call ?_
  w_top on
  refine kn_post hT9 (fun zz zz => rfl) ?_
  w_call any ho hd hcd hD T F
  clear hd
  rename News _ _ _ _ => N
  have C' := ghost_code hT9
  have X1 := ghost_K hT9 KX KR.ex.2.2.2.2.2.2
  have T1 := ghost_top hT9 T
  have N1 := ghost_news hT9 F N
  have F1 := ghost_fr hT9 F
  kn_lists hT9
  kn_codes C'
  clear N KX F C'
  rename IntsAre _ _ => hI
  rename CellsAre _ _ _ => C1
  rename (_ : Obj).data = Data.cell _ => hwc
  rename ¬ _ < _ => hlen
  refine law_entry (prm := ⟨[], [⟨"script", none, default⟩], none, [], [], none, []⟩) X1 KR T1 F1 lifted hI N1 codeHd ?hz (hwc.trans rfl) rfl rfl rfl ?dd ?uu rfl rfl rfl rfl rfl rfl rfl (fun zz => rfl) PassesOwn.leaving (trF_of (ds := []) (by kernel_rfl)) rfl rfl (trF_of (ds := []) (by kernel_rfl)) rfl rfl rfl rfl rfl ?fin
  case hz => omega
  case dd => show 1 + claimMargin + 1 ≤ 302; decide
  case uu => show 4 + 3 ≤ 20; decide
  case fin =>
    intro s' m' hs hF hps
    obtain ⟨h', tk', rfl⟩ := hs
    exact ⟨goodW_bool hF (by assumption) (raisesW_false (by wrow_none_raised)) (by wrow_post), hps, True.intro⟩
end
