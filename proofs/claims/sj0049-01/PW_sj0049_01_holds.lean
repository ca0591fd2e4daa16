import PyProof.Rows.All
import Wide.All
import OpenK.AllK
import Wide.FinOn
import Lean
import PySem.Challenge.RW_sj0049_01
set_option Elab.async false
set_option maxRecDepth 100000
set_option linter.all false
set_option genSizeOf false
set_option bootstrap.genMatcherCode false
set_option compiler.extract_closed false
set_option backward.match.sparseCases false
set_option genInjectivity true
-- L0
section
namespace Mine
inductive LX where
  | v (i : Nat)
  | n (k : Nat)
  | a (x y : LX)
  | s (x : LX)
  | m (k : Nat) (x : LX)
  | w (x : LX) (k : Nat)
noncomputable def LX.at : List Nat → Nat → Nat
  | [], _ => 0
  | x :: _, 0 => x
  | _ :: l, i + 1 => LX.at l i
noncomputable def LX.ev (c : List Nat) : LX → Nat
  | .v i => LX.at c i
  | .n k => k
  | .a x y => x.ev c + y.ev c
  | .s x => Nat.succ (x.ev c)
  | .m k x => k * x.ev c
  | .w x k => x.ev c * k
noncomputable def LX.plus : List Nat → List Nat → List Nat
  | [], l => l
  | x :: k, [] => x :: k
  | x :: k, y :: l => (x + y) :: LX.plus k l
noncomputable def LX.times (k : Nat) : List Nat → List Nat
  | [] => []
  | x :: l => (k * x) :: LX.times k l
noncomputable def LX.unit : Nat → List Nat
  | 0 => [1]
  | i + 1 => 0 :: LX.unit i
noncomputable def LX.nf : LX → List Nat
  | .v i => 0 :: LX.unit i
  | .n k => [k]
  | .a x y => LX.plus x.nf y.nf
  | .s x => LX.plus [1] x.nf
  | .m k x => LX.times k x.nf
  | .w x k => LX.times k x.nf
noncomputable def LX.dot : List Nat → List Nat → Nat
  | [], _ => 0
  | _ :: _, [] => 0
  | x :: k, y :: l => x * y + LX.dot k l
theorem LX.dot_plus : ∀ (a b c : List Nat), LX.dot (LX.plus a b) c = LX.dot a c + LX.dot b c
  | [], _, c => (Nat.zero_add _).symm
  | _ :: _, [], c => rfl
  | _ :: _, _ :: _, [] => rfl
  | x :: k, y :: l, z :: c => by
    show (x + y) * z + LX.dot (LX.plus k l) c = (x * z + LX.dot k c) + (y * z + LX.dot l c)
    rw [LX.dot_plus k l c, Nat.add_mul, Nat.add_add_add_comm]
theorem LX.dot_times (n : Nat) : ∀ (a c : List Nat), LX.dot (LX.times n a) c = n * LX.dot a c
  | [], _ => rfl
  | _ :: _, [] => rfl
  | x :: k, z :: c => by
    show n * x * z + LX.dot (LX.times n k) c = n * (x * z + LX.dot k c)
    rw [LX.dot_times n k c, Nat.mul_add, Nat.mul_assoc]
theorem LX.dot_unit : ∀ (c : List Nat) (i : Nat), LX.dot (LX.unit i) c = LX.at c i
  | [], 0 => rfl
  | [], _ + 1 => rfl
  | x :: c, 0 => by show 1 * x + 0 = x; rw [Nat.one_mul, Nat.add_zero]
  | x :: c, i + 1 => by show 0 * x + LX.dot (LX.unit i) c = LX.at c i; rw [Nat.zero_mul, Nat.zero_add, LX.dot_unit c i]
theorem LX.nf_ev (c : List Nat) : ∀ x : LX, LX.dot x.nf (1 :: c) = x.ev c
  | .v i => by show 0 * 1 + LX.dot (LX.unit i) c = LX.at c i; rw [LX.dot_unit, Nat.zero_mul, Nat.zero_add]
  | .n k => Nat.mul_one k
  | .a x y => by show LX.dot (LX.plus x.nf y.nf) (1 :: c) = x.ev c + y.ev c; rw [LX.dot_plus, x.nf_ev c, y.nf_ev c]
  | .s x => by show LX.dot (LX.plus [1] x.nf) (1 :: c) = Nat.succ (x.ev c); rw [LX.dot_plus, x.nf_ev c]; exact Nat.add_comm 1 _
  | .m k x => by show LX.dot (LX.times k x.nf) (1 :: c) = k * x.ev c; rw [LX.dot_times, x.nf_ev c]
  | .w x k => by show LX.dot (LX.times k x.nf) (1 :: c) = x.ev c * k; rw [LX.dot_times, x.nf_ev c, Nat.mul_comm]
noncomputable def LX.sub : List Nat → List Nat → Bool
  | [], _ => true
  | x :: k, [] => Nat.beq x 0 && LX.sub k []
  | x :: k, y :: l => Nat.ble x y && LX.sub k l
theorem LX.sub_dot : ∀ (a b c : List Nat), LX.sub a b = true → LX.dot a c ≤ LX.dot b c
  | [], _, _, _ => Nat.zero_le _
  | _ :: _, _, [], _ => Nat.zero_le _
  | x :: k, [], z :: c, h => by
    have h1 := (Bool.and_eq_true_iff.mp h)
    have h2 := LX.sub_dot k [] c h1.2
    rw [Nat.eq_of_beq_eq_true h1.1]
    show 0 * z + LX.dot k c ≤ _
    rw [Nat.zero_mul, Nat.zero_add]; exact h2
  | x :: k, y :: l, z :: c, h =>
    have h1 := (Bool.and_eq_true_iff.mp h)
    Nat.add_le_add (Nat.mul_le_mul_right z (Nat.le_of_ble_eq_true h1.1)) (LX.sub_dot k l c h1.2)
inductive LH where
  | le (x y : LX)
  | lt (x y : LX)
  | eq (x y : LX)
  | qe (x y : LX)
noncomputable def LH.imp (c : List Nat) (P : Prop) : List LH → Prop
  | [] => P
  | .le x y :: h => x.ev c ≤ y.ev c → LH.imp c P h
  | .lt x y :: h => x.ev c < y.ev c → LH.imp c P h
  | .eq x y :: h => x.ev c = y.ev c → LH.imp c P h
  | .qe x y :: h => y.ev c = x.ev c → LH.imp c P h
noncomputable def LH.chk : List LH → List Nat → List Nat → Bool
  | [], u, v => LX.sub u v
  | .le x y :: h, u, v => LH.chk h (LX.plus u y.nf) (LX.plus v x.nf)
  | .lt x y :: h, u, v => LH.chk h (LX.plus u y.nf) (LX.plus v (LX.plus [1] x.nf))
  | .eq x y :: h, u, v => LH.chk h (LX.plus u y.nf) (LX.plus v x.nf)
  | .qe x y :: h, u, v => LH.chk h (LX.plus u y.nf) (LX.plus v x.nf)
theorem LH.ok (c : List Nat) (P : Prop) : ∀ (h : List LH) (u v : List Nat), LH.chk h u v = true → (LX.dot u (1 :: c) ≤ LX.dot v (1 :: c) → P) → LH.imp c P h
  | [], u, v, k, f => f (LX.sub_dot u v _ k)
  | .le x y :: h, u, v, k, f => fun l => LH.ok c P h _ _ k fun g => f (by rw [LX.dot_plus, LX.dot_plus, LX.nf_ev, LX.nf_ev] at g; exact Nat.le_of_add_le_add_right (Nat.le_trans g (Nat.add_le_add_left l _)))
  | .lt x y :: h, u, v, k, f => fun l => LH.ok c P h _ _ k fun g => f (by rw [LX.dot_plus, LX.dot_plus, LX.dot_plus, LX.nf_ev, LX.nf_ev] at g; exact Nat.le_of_add_le_add_right (Nat.le_trans g (Nat.add_le_add_left ((Nat.add_comm 1 _) ▸ l) _)))
  | .eq x y :: h, u, v, k, f => fun l => LH.ok c P h _ _ k fun g => f (by rw [LX.dot_plus, LX.dot_plus, LX.nf_ev, LX.nf_ev] at g; exact Nat.le_of_add_le_add_right (Nat.le_trans g (Nat.add_le_add_left (Nat.le_of_eq l) _)))
  | .qe x y :: h, u, v, k, f => fun l => LH.ok c P h _ _ k fun g => f (by rw [LX.dot_plus, LX.dot_plus, LX.nf_ev, LX.nf_ev] at g; exact Nat.le_of_add_le_add_right (Nat.le_trans g (Nat.add_le_add_left (Nat.le_of_eq l.symm) _)))
theorem lin (c : List Nat) (h : List LH) (x y : LX) (k : LH.chk h x.nf y.nf = true) : LH.imp c (x.ev c ≤ y.ev c) h := LH.ok c _ h _ _ k fun g => by rw [LX.nf_ev, LX.nf_ev] at g; exact g
theorem linl (c : List Nat) (h : List LH) (x y : LX) (k : LH.chk h (LX.plus [1] x.nf) y.nf = true) : LH.imp c (x.ev c < y.ev c) h := LH.ok c _ h _ _ k fun g => by rw [LX.dot_plus, LX.nf_ev, LX.nf_ev] at g; exact Nat.lt_of_lt_of_le (Nat.lt_of_lt_of_eq (Nat.lt_succ_self _) (Nat.add_comm 1 _).symm) g
theorem ex_add {k n : Nat} (h : k ≤ n) : ∃ j, n = j + k := ⟨n - k, (Nat.sub_add_cancel h).symm⟩
theorem linF (c : List Nat) (h : List LH) (k : LH.chk h [1] [] = true) : LH.imp c False h := LH.ok c _ h _ _ k fun g => Nat.not_succ_le_zero 0 g
end Mine
end
-- M1
section
namespace Mine
open PySem
inductive AV where
  | none | bool (b : Bool) | int (i : Int) | str (n : Nat) | tup (l : List AV) | cell (i : Nat) | script
  deriving Inhabited
mutual
noncomputable def AV.eqb : AV → AV → Bool
  | .none, .none => true
  | .bool a, .bool b => a == b
  | .int a, .int b => a == b
  | .str a, .str b => a == b
  | .tup a, .tup b => AV.eqbs a b
  | .cell a, .cell b => a == b
  | .script, .script => true
  | _, _ => false
noncomputable def AV.eqbs : List AV → List AV → Bool
  | [], [] => true
  | a :: r, b :: t => AV.eqb a b && AV.eqbs r t
  | _, _ => false
end
theorem AV.ff {p : Prop} (h : ¬ p) : false = true ↔ p := ⟨fun e => Bool.noConfusion e, fun e => absurd e h⟩
theorem AV.yy {p : Prop} (h : p) : true = true ↔ p := ⟨fun zz => h, fun zz => rfl⟩
mutual
theorem AV.eqb_iff : ∀ a b : AV, AV.eqb a b = true ↔ a = b
  | .none, b => by
    cases b with
    | none => exact AV.yy rfl
    | _ => exact AV.ff AV.noConfusion
  | .bool x, b => by
    cases b with
    | bool y => exact beq_iff_eq.trans ⟨congrArg AV.bool, AV.bool.inj⟩
    | _ => exact AV.ff AV.noConfusion
  | .int x, b => by
    cases b with
    | int y => exact beq_iff_eq.trans ⟨congrArg AV.int, AV.int.inj⟩
    | _ => exact AV.ff AV.noConfusion
  | .str x, b => by
    cases b with
    | str y => exact beq_iff_eq.trans ⟨congrArg AV.str, AV.str.inj⟩
    | _ => exact AV.ff AV.noConfusion
  | .tup l, b => by
    cases b with
    | tup y => exact (AV.eqbs_iff l y).trans ⟨congrArg AV.tup, AV.tup.inj⟩
    | _ => exact AV.ff AV.noConfusion
  | .cell x, b => by
    cases b with
    | cell y => exact beq_iff_eq.trans ⟨congrArg AV.cell, AV.cell.inj⟩
    | _ => exact AV.ff AV.noConfusion
  | .script, b => by
    cases b with
    | script => exact AV.yy rfl
    | _ => exact AV.ff AV.noConfusion
theorem AV.eqbs_iff : ∀ a b : List AV, AV.eqbs a b = true ↔ a = b
  | [], b => by
    cases b with
    | nil => exact AV.yy rfl
    | cons _ _ => exact AV.ff (fun e => nomatch e)
  | a :: r, b => by
    cases b with
    | nil => exact AV.ff (fun e => nomatch e)
    | cons b t => exact Bool.and_eq_true_iff.trans ((and_congr (AV.eqb_iff a b) (AV.eqbs_iff r t)).trans ⟨fun h => by rw [h.1, h.2], fun h => List.cons.inj h⟩)
end
noncomputable instance : DecidableEq AV := fun a b => if h : AV.eqb a b = true then isTrue ((AV.eqb_iff a b).mp h) else isFalse fun e => h ((AV.eqb_iff a b).mpr e)
inductive Cls where | maker | thread
  deriving DecidableEq, Inhabited
inductive Cell where
  | list (l : List AV)
  | dict (l : List (Int × AV))
  | obj (c : Cls) (l : List (Nat × AV))
  deriving Inhabited
noncomputable abbrev Store := List Cell
inductive Fl where | next | cont | ret (v : AV)
noncomputable abbrev Vars := List (Option AV)
inductive Fn where
  | children | subexpressions | expr_reads
  | mkInit | emit | here | new_slot | aim | control | assignment | nonblocking | branch | selection | loop | repetition | scoped | close | block | parallel | waiting | looping | make
  | compile_process | compile_routine | row_targets | falls_through | scopes_behind | target_faults | scope_faults
  | thInit
  | law_bag | law_pull | law_new | law_scope | law_plain | law_parts | law_tree | law_acts | law_seen | law_shape
  deriving DecidableEq, Inhabited
noncomputable abbrev Handler := Fn → List AV → Store → Option (AV × Store)
noncomputable def seq (a b : Str) : Bool := a.cps.toList == b.cps.toList
theorem seq_iff {a b : Str} : seq a b = true ↔ a = b := by
  obtain ⟨⟨a⟩⟩ := a
  obtain ⟨⟨b⟩⟩ := b
  simp [seq]
noncomputable def place (x : Str) : List (Str × NameKind) → Option Nat
  | [] => none
  | p :: r => if seq p.1 x then some 0 else (place x r).map (· + 1)
noncomputable def codeAt (x : Str) : List Str → Option Nat
  | [] => none
  | p :: r => if seq p x then some 0 else (codeAt x r).map (· + 1)
noncomputable def tab : List Str := (["word", "un", "bin", "cond", "cat", "slice", "ext", "pick", "pow", "call",
  "sys", "sig", "event", "always", "jump", "end", "return", "match", "fork", "unless",
  "again", "enter", "leave", "no_end", "bad_target", "leave_without_enter", "scope_left_open", "scopes_differ", "set", "nba",
  "delay", "await", "trigger", "disable", "$stop", "pos", "if", "case", "casez", "for",
  "while", "repeat", "forever", "block", "const", "any", "wait", "save", "waitfor", "local",
  "odd", "times", "join", "top", "initial", "body", "slots", "code", "number", "pc",
  "frame", "path", "calls", "scopes", "parent", "children", "done", "stamp", "looking", "kind"] : List String).map Str.ofString
noncomputable def codeOf (x : Str) : Option Nat := codeAt x tab
noncomputable def Fn.title : Fn → String
  | .children => "children" | .subexpressions => "subexpressions" | .expr_reads => "expr_reads"
  | .mkInit => "__init__" | .emit => "emit" | .here => "here" | .new_slot => "new_slot" | .aim => "aim" | .control => "control" | .assignment => "assignment" | .nonblocking => "nonblocking"
  | .branch => "branch" | .selection => "selection" | .loop => "loop" | .repetition => "repetition" | .scoped => "scoped" | .close => "close" | .block => "block" | .parallel => "parallel"
  | .waiting => "waiting" | .looping => "looping" | .make => "make"
  | .compile_process => "compile_process" | .compile_routine => "compile_routine" | .row_targets => "row_targets" | .falls_through => "falls_through" | .scopes_behind => "scopes_behind"
  | .target_faults => "target_faults" | .scope_faults => "scope_faults" | .thInit => "__init__"
  | .law_bag => "_law_bag" | .law_pull => "_law_pull" | .law_new => "_law_new" | .law_scope => "_law_scope" | .law_plain => "_law_plain" | .law_parts => "_law_parts" | .law_tree => "_law_tree"
  | .law_acts => "_law_acts" | .law_seen => "_law_seen" | .law_shape => "_law_shape"
noncomputable def Fn.cls? : Fn → Option Cls
  | .thInit => some .thread
  | .mkInit | .emit | .here | .new_slot | .aim | .control | .assignment | .nonblocking | .branch | .selection | .loop | .repetition | .scoped | .close | .block | .parallel | .waiting | .looping | .make => some .maker
  | _ => none
noncomputable def fnGlobals : List Fn := [.children, .subexpressions, .expr_reads, .compile_process, .compile_routine, .row_targets, .falls_through, .scopes_behind, .target_faults, .scope_faults,
  .law_bag, .law_pull, .law_new, .law_scope, .law_plain, .law_parts, .law_tree, .law_acts, .law_seen, .law_shape]
noncomputable def fnMeths : List Fn := [.emit, .here, .new_slot, .aim, .control, .assignment, .nonblocking, .branch, .selection, .loop, .repetition, .scoped, .close, .block, .parallel, .waiting, .looping, .make]
noncomputable def findFn (x : Str) : List Fn → Option Fn
  | [] => none
  | f :: r => if seq (Str.ofString f.title) x then some f else findFn x r
noncomputable def clsOf (x : Str) : Option Cls := if seq (Str.ofString "CodeMaker") x then some .maker else if seq (Str.ofString "Thread") x then some .thread else none
noncomputable def Cls.init : Cls → Fn
  | .maker => .mkInit
  | .thread => .thInit
inductive BI where | len | int | list | tuple | range | sorted | reversed
  deriving DecidableEq
noncomputable def biOf (x : Str) : Option BI :=
  if seq (Str.ofString "len") x then some .len else if seq (Str.ofString "int") x then some .int else if seq (Str.ofString "list") x then some .list else
  if seq (Str.ofString "tuple") x then some .tuple else if seq (Str.ofString "range") x then some .range else if seq (Str.ofString "sorted") x then some .sorted else
  if seq (Str.ofString "reversed") x then some .reversed else none
end Mine
end
-- N0
section
namespace Mine
open PySem
noncomputable def lim : Nat := 1048576
noncomputable def AV.plain : Nat → AV → Bool
  | _, .none => true
  | _, .int _ => true
  | _, .str n => decide (n < 70)
  | n + 1, .tup l => l.all (AV.plain n)
  | _, _ => false
noncomputable def lookN {β : Type} (x : Nat) : List (Nat × β) → Option β
  | [] => none
  | (y, v) :: r => if y = x then some v else lookN x r
noncomputable def putN {β : Type} (x : Nat) (v : β) : List (Nat × β) → List (Nat × β)
  | [] => [(x, v)]
  | (y, u) :: r => if y = x then (y, v) :: r else (y, u) :: putN x v r
noncomputable def lookI {β : Type} (x : Int) : List (Int × β) → Option β
  | [] => none
  | (y, v) :: r => if y = x then some v else lookI x r
noncomputable def putI {β : Type} (x : Int) (v : β) : List (Int × β) → List (Int × β)
  | [] => [(x, v)]
  | (y, u) :: r => if y = x then (y, v) :: r else (y, u) :: putI x v r
noncomputable def isAttr (n : Nat) : Bool := [55, 56, 57, 58, 59, 60, 61, 62, 63, 64, 65, 66, 46, 67, 68, 20, 69].contains n
noncomputable def listAt (σ : Store) (i : Nat) : Option (List AV) := match σ[i]? with
  | some (.list l) => some l
  | _ => none
noncomputable def dictAt (σ : Store) (i : Nat) : Option (List (Int × AV)) := match σ[i]? with
  | some (.dict l) => some l
  | _ => none
noncomputable def objAt (σ : Store) (i : Nat) : Option (Cls × List (Nat × AV)) := match σ[i]? with
  | some (.obj c l) => some (c, l)
  | _ => none
noncomputable def newCell (c : Cell) (σ : Store) : AV × Store := (.cell σ.length, σ ++ [c])
noncomputable def intOp : Operator → Int → Int → Option Int
  | .Add, a, b => some (a + b)
  | .Sub, a, b => some (a - b)
  | .Mult, a, b => if a.natAbs < 2 ^ 62 ∨ b.natAbs < 2 ^ 62 then some (a * b) else none
  | .FloorDiv, a, b => if 0 < b ∧ b < 1073741824 then some (a.fdiv b) else none
  | .Mod, a, b => if b = 0 then none else some (a.fmod b)
  | _, _, _ => none
noncomputable def binV (op : Operator) (a b : AV) (σ : Store) : Option (AV × Store) :=
  match a, b with
  | .int x, .int y => (intOp op x y).map fun z => (.int z, σ)
  | .tup x, .tup y => (match op with
    | .Add => if x.length + y.length ≤ lim then some (.tup (x ++ y), σ) else none
    | _ => none)
  | .cell i, .cell j => (match op with
    | .Add => (listAt σ i).bind fun x => (listAt σ j).bind fun y => if x.length + y.length ≤ lim then some (newCell (.list (x ++ y)) σ) else none
    | _ => none)
  | .cell i, .int n => (match op with
    | .Mult => (listAt σ i).bind fun x => (match x with
      | [v] => if 0 ≤ n ∧ n ≤ 64 then some (newCell (.list (List.replicate n.toNat v)) σ) else none
      | _ => none)
    | _ => none)
  | _, _ => none
noncomputable def eqV (a b : AV) (σ : Store) : Option Bool :=
  match a, b with
  | .cell i, .cell j => (listAt σ i).bind fun x => (listAt σ j).bind fun y => if x.all (AV.plain 8) && y.all (AV.plain 8) then some (decide (x = y)) else none
  | a, b => if AV.plain 8 a && AV.plain 8 b then some (decide (a = b)) else none
noncomputable def cmpV (op : CmpOp) (a b : AV) (σ : Store) : Option Bool :=
  match op with
  | .Eq => eqV a b σ
  | .NotEq => (eqV a b σ).map not
  | .Lt => (match a, b with | .int x, .int y => some (decide (x < y)) | _, _ => none)
  | .Gt => (match a, b with | .int x, .int y => some (decide (x > y)) | _, _ => none)
  | .GtE => (match a, b with | .int x, .int y => some (decide (x ≥ y)) | _, _ => none)
  | .Is => (match b with | .none => some (decide (a = .none)) | _ => none)
  | .IsNot => (match b with | .none => some (decide (a ≠ .none)) | _ => none)
  | .In => (match b with
    | .tup l => if l.all (AV.plain 8) && AV.plain 8 a then some (decide (a ∈ l)) else none
    | .cell i => (match a with
      | .int k => (dictAt σ i).map fun l => (lookI k l).isSome
      | _ => none)
    | _ => none)
  | .NotIn => (match b with
    | .tup l => if l.all (AV.plain 8) && AV.plain 8 a then some (!decide (a ∈ l)) else none
    | _ => none)
  | _ => none
noncomputable def truthyV (v : AV) (σ : Store) : Option Bool := match v with
  | .bool b => some b
  | .cell i => (listAt σ i).map fun l => !l.isEmpty
  | _ => none
noncomputable def seqAt (l : List AV) (k : Int) : Option AV := if 0 ≤ k then l[k.toNat]? else if -(l.length : Int) ≤ k then l[(k + l.length).toNat]? else none
noncomputable def idxV (o i : AV) (σ : Store) : Option AV := match o, i with
  | .tup l, .int k => seqAt l k
  | .cell c, .int k => (match σ[c]? with
    | some (.list l) => seqAt l k
    | some (.dict l) => lookI k l
    | _ => none)
  | _, _ => none
noncomputable def setIdxV (o i v : AV) (σ : Store) : Option Store := match o, i with
  | .cell c, .int k => (match σ[c]? with
    | some (.list l) => if 0 ≤ k ∧ k < l.length then some (σ.set c (.list (l.set k.toNat v))) else none
    | some (.dict l) => if l.length < lim then some (σ.set c (.dict (putI k v l))) else none
    | _ => none)
  | _, _ => none
noncomputable def attrV (o : AV) (a : Nat) (σ : Store) : Option AV := match o with
  | .cell c => (objAt σ c).bind fun p => if isAttr a then lookN a p.2 else none
  | _ => none
noncomputable def setAttrV (o : AV) (a : Nat) (v : AV) (σ : Store) : Option Store := match o with
  | .cell c => (objAt σ c).bind fun p => if isAttr a && decide (p.2.length < 100) then some (σ.set c (.obj p.1 (putN a v p.2))) else none
  | _ => none
noncomputable def appendV (o v : AV) (σ : Store) : Option Store := match o with
  | .cell c => (listAt σ c).bind fun l => if l.length < lim then some (σ.set c (.list (l ++ [v]))) else none
  | _ => none
noncomputable def popV (o : AV) (σ : Store) : Option (AV × Store) := match o with
  | .cell c => (listAt σ c).bind fun l => l.getLast?.map fun v => (v, σ.set c (.list l.dropLast))
  | _ => none
noncomputable def popAtV (o i : AV) (σ : Store) : Option (AV × Store) := match o, i with
  | .cell c, .int k => (listAt σ c).bind fun l => if 0 ≤ k then l[k.toNat]?.map fun v => (v, σ.set c (.list (l.eraseIdx k.toNat))) else none
  | _, _ => none
noncomputable def cutV (lo hi : Option Int) (l : List AV) : Option (List AV) := match lo, hi with
  | none, some k => if 0 ≤ k then some (l.take k.toNat) else if k = -1 then some l.dropLast else none
  | some k, none => if 0 ≤ k then some (l.drop k.toNat) else none
  | _, _ => none
noncomputable def sliceV (o : AV) (lo hi : Option Int) (σ : Store) : Option (AV × Store) := match o with
  | .tup l => (match lo, hi with
    | some k, none => if 1 ≤ k ∧ k ≤ l.length then some (.tup (l.drop k.toNat), σ) else none
    | none, some k => if k = -1 ∧ l ≠ [] then some (.tup l.dropLast, σ) else none
    | _, _ => none)
  | .cell c => (listAt σ c).bind fun l => (cutV lo hi l).map fun r => newCell (.list r) σ
  | _ => none
noncomputable def isListV (v : AV) (σ : Store) : Bool := match v with
  | .cell i => (listAt σ i).isSome
  | _ => false
noncomputable def isMakerV (v : AV) (σ : Store) : Bool := match v with
  | .cell i => (match objAt σ i with
    | some p => decide (p.1 = .maker) && p.2.all (fun q => isAttr q.1)
    | none => false)
  | _ => false
noncomputable def notCall : Expr → Bool
  | .Call .. => false
  | _ => true
noncomputable def constInt : Expr → Option Int
  | .Constant (.int i) _ _ => some i
  | .UnaryOp .USub (.Constant (.int i) _ _) _ => some (-i)
  | _ => none
noncomputable def intsOf : List AV → Option (List Int)
  | [] => some []
  | .int i :: r => (intsOf r).map (i :: ·)
  | _ => none
noncomputable def insI (x : Int) : List Int → List Int
  | [] => [x]
  | y :: r => if x ≤ y then x :: y :: r else y :: insI x r
noncomputable def sortI : List Int → List Int
  | [] => []
  | x :: r => insI x (sortI r)
noncomputable def biV (ns : List Int) (b : BI) (a : AV) (σ : Store) : Option (AV × Store) := match b with
  | .len => (match a with
    | .tup l => some (.int l.length, σ)
    | .cell c => (listAt σ c).map fun l => (.int l.length, σ)
    | _ => none)
  | .int => (match a with | .int i => some (.int i, σ) | _ => none)
  | .list => (match a with
    | .tup l => some (newCell (.list l) σ)
    | .script => some (newCell (.list (ns.map .int)) σ)
    | _ => none)
  | .tuple => (match a with
    | .cell c => (listAt σ c).map fun l => (.tup l, σ)
    | _ => none)
  | .sorted => (match a with
    | .tup l => (intsOf l).bind fun xs => if xs.length < 64 then some (newCell (.list ((sortI xs).map .int)) σ) else none
    | .cell c => (match σ[c]? with
      | some (.list l) => (intsOf l).bind fun xs => if xs.length < 64 then some (newCell (.list ((sortI xs).map .int)) σ) else none
      | some (.dict l) => if l.length < 64 then some (newCell (.list ((sortI (l.map (·.1))).map .int)) σ) else none
      | _ => none)
    | _ => none)
  | _ => none
noncomputable def rangeI (lo hi : Int) : List AV := (List.range (hi - lo).toNat).map fun (j : Nat) => AV.int (lo + (j : Int))
noncomputable abbrev Iter := List AV × Option Nat
noncomputable def iterV (v : AV) (σ : Store) : Option Iter := match v with
  | .tup l => some (l, none)
  | .cell c => (listAt σ c).map fun l => (l, some c)
  | _ => none
noncomputable def Iter.ok (it : Iter) (σ : Store) : Bool := match it.2 with
  | none => true
  | some c => (match σ[c]? with
    | some (.list l) => AV.eqbs l it.1
    | _ => false)
noncomputable def kindIn (x : Str) (sc : List (Str × NameKind)) : Option NameKind := (place x sc).bind fun i => (sc[i]?).map fun p => p.2
noncomputable def setVar (sc : List (Str × NameKind)) (x : Str) (v : AV) (ρ : Vars) : Option Vars :=
  if kindIn x sc = some .local then (place x sc).map fun i => ρ.set i (some v) else none
noncomputable def compNames (inner : List (Str × NameKind)) : List (Str × NameKind) :=
  inner.map fun p => (p.1, match p.2 with | .free => NameKind.cell | k => k)
noncomputable def compVars (outer : List (Str × NameKind)) (ρ : Vars) (inner : List (Str × NameKind)) : Vars :=
  inner.map fun p => match p.2 with
    | .free => (place p.1 outer).bind fun i => (ρ[i]?).join
    | _ => none
noncomputable def scopeOk (sc : List (Str × NameKind)) (scope : Scope) : Bool :=
  decide (scope.kind = .function) && decide (place "__debug__" (compNames scope.names) = none) && scope.names.all fun p => match p.2 with
    | .local => decide (kindIn p.1 scope.names = some .local)
    | .free => decide (kindIn p.1 sc = some .cell)
    | .globalImplicit => true
    | _ => false
noncomputable def freeSet (sc : List (Str × NameKind)) (ρ : Vars) (inner : List (Str × NameKind)) : Bool :=
  inner.all fun p => match p.2 with
    | .free => ((place p.1 sc).bind fun i => (ρ[i]?).join).isSome
    | _ => true
noncomputable def loopV (step : AV → Vars → Store → Option (Fl × Vars × Store)) (it : Iter) : List AV → Vars → Store → Option (Fl × Vars × Store)
  | [], ρ, σ => if it.ok σ then some (.next, ρ, σ) else none
  | v :: r, ρ, σ => if it.ok σ then (match step v ρ σ with
    | some (.ret u, ρ', σ') => some (.ret u, ρ', σ')
    | some (_, ρ', σ') => loopV step it r ρ' σ'
    | none => none) else none
noncomputable def whileV (test : Vars → Store → Option (Bool × Store)) (body : Vars → Store → Option (Fl × Vars × Store)) : Nat → Vars → Store → Option (Fl × Vars × Store)
  | 0, _, _ => none
  | n + 1, ρ, σ => (match test ρ σ with
    | some (false, σ') => some (.next, ρ, σ')
    | some (true, σ') => (match body ρ σ' with
      | some (.ret u, ρ', σ'') => some (.ret u, ρ', σ'')
      | some (_, ρ', σ'') => whileV test body n ρ' σ''
      | none => none)
    | none => none)
noncomputable def compV (set : AV → Vars → Option Vars) (tests : Vars → Store → Option (Bool × Store)) (elt : Vars → Store → Option (AV × Store)) (it : Iter) : List AV → List AV → Vars → Store → Option (List AV × Store)
  | [], acc, _, σ => if it.ok σ then some (acc, σ) else none
  | v :: r, acc, ρ, σ => if it.ok σ then (set v ρ).bind fun ρ' => (tests ρ' σ).bind fun p => if p.1 then (elt ρ' p.2).bind fun q => if acc.length < lim then compV set tests elt it r (acc ++ [q.1]) ρ' q.2 else none else compV set tests elt it r acc ρ' p.2 else none
noncomputable def testV (whole : Option (AV × Store)) : Option (Bool × Store) := whole.bind fun a => (truthyV a.1 a.2).map fun t => (t, a.2)
noncomputable def notComp : Expr → Bool
  | .ListComp .. | .SetComp .. | .DictComp .. => false
  | _ => true
noncomputable def notTuple : Expr → Bool
  | .Tuple .. => false
  | _ => true
noncomputable def notSlice : Expr → Bool
  | .Slice .. => false
  | _ => true
noncomputable def augOp : Operator → AV → AV → Option AV
  | .Add, .int a, .int b => some (.int (a + b))
  | .Sub, .int a, .int b => some (.int (a - b))
  | _, _, _ => none
noncomputable def setTarget (sc : List (Str × NameKind)) : Expr → AV → Vars → Option Vars
  | .Name x _, v, ρ => setVar sc x v ρ
  | .Tuple [.Name x _, .Name y _] _ _, .tup [a, b], ρ => (setVar sc x a ρ).bind fun ρ' => setVar sc y b ρ'
  | _, _, _ => none
structure Info where
  params : List Str
  body : List Stmt
  names : List (Str × NameKind)
noncomputable def defNamed (x : Str) : List Stmt → Option Info
  | [] => none
  | .FunctionDef n as b _ _ _ sc _ _ _ :: r => if seq n x then some ⟨as.args.map (·.arg), b, sc.names⟩ else defNamed x r
  | _ :: r => defNamed x r
noncomputable def clsNamed (x : Str) : List Stmt → List Stmt
  | [] => []
  | .ClassDef n _ _ b _ _ _ _ _ _ _ :: r => if seq n x then b else clsNamed x r
  | _ :: r => clsNamed x r
noncomputable def Cls.title : Cls → String
  | .maker => "CodeMaker"
  | .thread => "Thread"
noncomputable def top : List Stmt := PySem.Challenge.pw_sj0049_01.main.body
noncomputable def info (f : Fn) : Option Info := match f.cls? with
  | none => defNamed (Str.ofString f.title) top
  | some c => defNamed (Str.ofString f.title) (clsNamed (Str.ofString c.title) top)
noncomputable def argOf (x : Str) : List Str → List AV → Option AV
  | p :: r, a :: s => if seq p x then some a else argOf x r s
  | _, _ => none
noncomputable def initVars (names : List (Str × NameKind)) (ps : List Str) (as : List AV) : Vars := names.map fun p => argOf p.1 ps as
noncomputable def lawInfo : Option Info := defNamed (Str.ofString "law") top
end Mine
end
-- N1
section
set_option genInjectivity false
namespace Mine
open PySem
noncomputable abbrev Run := Vars → Store → Option (AV × Store)
noncomputable abbrev RunB := Vars → Store → Option (Bool × Store)
noncomputable abbrev RunS := Vars → Store → Option (Fl × Vars × Store)
inductive IK where | plain | range | rev
inductive IE where
  | nil | cons (a r : IE)
  | none | bool (b : Bool) | int (i : Int) | str (n : Nat) | var (i : Nat)
  | bin (op : Operator) (a b : IE) | neg (a : IE) | ife (t a b : IE) | dict | list (es : IE) | tup (es : IE) | cmp (op : CmpOp) (a b : IE)
  | attr (o : IE) (n : Nat) | sub (o i : IE) | subK (o : IE) (n : Nat) | last (o : IE) | hi (o : IE) (k : Int) | lo (o : IE) (k : Int)
  | app (o es : IE) | pop (o es : IE) | meth (f : Fn) (o es : IE) | call (f : Fn) (es : IE) | new (c : Cls) (es : IE)
  | bi (b : BI) (es : IE) | listR (es : IE) | and2 (a b : IE) | lc (k : IK) (fr : List (Option Nat)) (i : Nat) (it ifs elt : IE)
  | tnot (t : IE) | tand (t r : IE) | tor (t r : IE) | tval (a : IE)
inductive IS where
  | done | expr (e : IE) (r : IS) | ret (e : IE) | retN | cont | set (i : Nat) (e : IE) (r : IS) | set2 (i j : Nat) (e : IE) (r : IS)
  | setA (o : IE) (n : Nat) (e : IE) (r : IS) | setI (o i e : IE) (r : IS) | augA (o : IE) (n : Nat) (op : Operator) (e : IE) (r : IS) | augI (o i : IE) (op : Operator) (e : IE) (r : IS)
  | iff (t : IE) (b o r : IS) | for1 (k : IK) (i : Nat) (it : IE) (b r : IS) | for2 (i j : Nat) (it : IE) (b r : IS) | whil (t : IE) (b r : IS)
noncomputable def asL (f : Run) (ρ : Vars) (σ : Store) : Option (List AV × Store) := (f ρ σ).bind fun y => match y.1 with
  | .tup l => some (l, y.2)
  | _ => none
noncomputable def asB (f : Run) (ρ : Vars) (σ : Store) : Option (Bool × Store) := (f ρ σ).bind fun y => match y.1 with
  | .bool b => some (b, y.2)
  | _ => none
noncomputable def ofB (f : RunB) (ρ : Vars) (σ : Store) : Option (AV × Store) := (f ρ σ).map fun b => (.bool b.1, b.2)
noncomputable def setAt (i : Nat) (v : AV) (ρ : Vars) : Option Vars := some (ρ.set i (some v))
noncomputable def set2At (i j : Nat) (v : AV) (ρ : Vars) : Option Vars := match v with
  | .tup [a, b] => some ((ρ.set i (some a)).set j (some b))
  | _ => none
noncomputable def asg (x : Option (Vars × Store)) : Option (Fl × Vars × Store) := x.map fun p => (.next, p.1, p.2)
noncomputable def varsOf : List (Option Nat) → Vars → Option Vars
  | [], _ => some []
  | o :: r, ρ => match o with
    | none => (varsOf r ρ).map fun l => none :: l
    | some j => (ρ[j]?).join.bind fun v => (varsOf r ρ).map fun l => some v :: l
noncomputable def itK (k : IK) (f : Run) (ρ : Vars) (σ : Store) : Option (Iter × Store) := match k with
  | .plain => (f ρ σ).bind fun a => (iterV a.1 a.2).map fun it => (it, a.2)
  | .range => (asL f ρ σ).bind fun a => (match a.1 with
    | [.int x] => if x.natAbs ≤ lim then some ((rangeI 0 x, none), a.2) else none
    | _ => none)
  | .rev => (asL f ρ σ).bind fun a => (match a.1 with
    | [.tup []] => some (([], none), a.2)
    | _ => none)
noncomputable def thenB (x : Option (Fl × Vars × Store)) (g : RunS) : Option (Fl × Vars × Store) := x.bind fun p => match p.1 with
  | .next => g p.2.1 p.2.2
  | f => some (f, p.2.1, p.2.2)
section
variable (ns : List Int) (C : Handler)
noncomputable def runE : IE → Run
  | .nil => fun zz σ => some (.tup [], σ)
  | .cons a r => fun ρ σ => (runE a ρ σ).bind fun x => (asL (runE r) ρ x.2).bind fun y => some (.tup (x.1 :: y.1), y.2)
  | .none => fun zz σ => some (.none, σ)
  | .bool b => fun zz σ => some (.bool b, σ)
  | .int i => fun zz σ => some (.int i, σ)
  | .str n => fun zz σ => some (.str n, σ)
  | .var i => fun ρ σ => (ρ[i]?).join.map fun v => (v, σ)
  | .bin op a b => fun ρ σ => (runE a ρ σ).bind fun x => (runE b ρ x.2).bind fun y => binV op x.1 y.1 y.2
  | .neg a => fun ρ σ => (runE a ρ σ).bind fun x => (match x.1 with | .int i => some (.int (-i), x.2) | _ => none)
  | .ife t a b => fun ρ σ => (asB (runE t) ρ σ).bind fun c => if c.1 then runE a ρ c.2 else runE b ρ c.2
  | .dict => fun zz σ => some (newCell (.dict []) σ)
  | .list es => fun ρ σ => (asL (runE es) ρ σ).bind fun a => if a.1.length ≤ lim then some (newCell (.list a.1) a.2) else none
  | .tup es => fun ρ σ => (asL (runE es) ρ σ).bind fun a => if a.1.length ≤ lim then some (.tup a.1, a.2) else none
  | .cmp op a b => fun ρ σ => (runE a ρ σ).bind fun x => (runE b ρ x.2).bind fun y => (cmpV op x.1 y.1 y.2).map fun c => (.bool c, y.2)
  | .attr o n => fun ρ σ => (runE o ρ σ).bind fun x => (attrV x.1 n x.2).map fun v => (v, x.2)
  | .sub o i => fun ρ σ => (runE o ρ σ).bind fun x => (runE i ρ x.2).bind fun k => (idxV x.1 k.1 k.2).map fun v => (v, k.2)
  | .subK o n => fun ρ σ => (runE o ρ σ).bind fun x => (idxV x.1 (.int (.ofNat n)) x.2).map fun v => (v, x.2)
  | .last o => fun ρ σ => (runE o ρ σ).bind fun x => (idxV x.1 (.int (-1)) x.2).map fun v => (v, x.2)
  | .hi o k => fun ρ σ => (runE o ρ σ).bind fun x => sliceV x.1 Option.none (some k) x.2
  | .lo o k => fun ρ σ => (runE o ρ σ).bind fun x => sliceV x.1 (some k) Option.none x.2
  | .app o es => fun ρ σ => (runE o ρ σ).bind fun a => if isListV a.1 a.2 then (asL (runE es) ρ a.2).bind fun b => (match b.1 with | [x] => (appendV a.1 x b.2).map fun σ' => (.none, σ') | _ => Option.none) else Option.none
  | .pop o es => fun ρ σ => (runE o ρ σ).bind fun a => if isListV a.1 a.2 then (asL (runE es) ρ a.2).bind fun b => (match b.1 with | [] => popV a.1 b.2 | [i] => popAtV a.1 i b.2 | _ => Option.none) else Option.none
  | .meth f o es => fun ρ σ => (runE o ρ σ).bind fun a => if isMakerV a.1 a.2 then (asL (runE es) ρ a.2).bind fun b => C f (a.1 :: b.1) b.2 else Option.none
  | .call f es => fun ρ σ => (asL (runE es) ρ σ).bind fun b => C f b.1 b.2
  | .new c es => fun ρ σ => (asL (runE es) ρ σ).bind fun b => (C c.init (.cell b.2.length :: b.1) (b.2 ++ [.obj c []])).bind fun r => if r.1 = .none then some (.cell b.2.length, r.2) else Option.none
  | .bi b es => fun ρ σ => (asL (runE es) ρ σ).bind fun a => (match a.1 with | [x] => biV ns b x a.2 | _ => Option.none)
  | .listR es => fun ρ σ => (asL (runE es) ρ σ).bind fun a => (match a.1 with
        | [.int x, .int y] => if x.natAbs ≤ 500000 ∧ y.natAbs ≤ 500000 then some (newCell (.list (rangeI x y)) a.2) else Option.none
        | _ => Option.none)
  | .and2 a b => fun ρ σ => (runE a ρ σ).bind fun x => (truthyV x.1 x.2).bind fun t => if (BoolOp.And = .And ∧ t = false) ∨ (BoolOp.And = .Or ∧ t = true) then some x else runE b ρ x.2
  | .lc k fr i it ifs elt => fun ρ σ => (varsOf fr ρ).bind fun ρ0 => (itK k (runE it) ρ σ).bind fun q => (compV (setAt i) (asB (runE ifs)) (runE elt) q.1 q.1.1 [] ρ0 q.2).map fun r => newCell (.list r.1) r.2
  | .tnot t => ofB fun ρ σ => (asB (runE t) ρ σ).map fun b => (!b.1, b.2)
  | .tand t r => ofB fun ρ σ => (asB (runE t) ρ σ).bind fun a => if (BoolOp.And = .And ∧ a.1 = false) ∨ (BoolOp.And = .Or ∧ a.1 = true) then some a else asB (runE r) ρ a.2
  | .tor t r => ofB fun ρ σ => (asB (runE t) ρ σ).bind fun a => if (BoolOp.Or = .And ∧ a.1 = false) ∨ (BoolOp.Or = .Or ∧ a.1 = true) then some a else asB (runE r) ρ a.2
  | .tval a => ofB fun ρ σ => testV (runE a ρ σ)
end
section
variable (W : Nat) (ns : List Int) (C : Handler)
noncomputable def runB : IS → RunS
  | .done => fun ρ σ => some (.next, ρ, σ)
  | .expr e r => fun ρ σ => thenB ((runE ns C e ρ σ).map fun a => (.next, ρ, a.2)) (runB r)
  | .ret e => fun ρ σ => (runE ns C e ρ σ).map fun a => (.ret a.1, ρ, a.2)
  | .retN => fun ρ σ => some (.ret .none, ρ, σ)
  | .cont => fun ρ σ => some (.cont, ρ, σ)
  | .set i e r => fun ρ σ => thenB ((runE ns C e ρ σ).bind fun a => asg ((setAt i a.1 ρ).map fun ρ' => (ρ', a.2))) (runB r)
  | .set2 i j e r => fun ρ σ => thenB ((runE ns C e ρ σ).bind fun a => asg ((set2At i j a.1 ρ).map fun ρ' => (ρ', a.2))) (runB r)
  | .setA o n e r => fun ρ σ => thenB ((runE ns C e ρ σ).bind fun a => asg ((runE ns C o ρ a.2).bind fun y => (setAttrV y.1 n a.1 y.2).map fun σ' => (ρ, σ'))) (runB r)
  | .setI o i e r => fun ρ σ => thenB ((runE ns C e ρ σ).bind fun a => asg ((runE ns C o ρ a.2).bind fun x => (runE ns C i ρ x.2).bind fun k => (setIdxV x.1 k.1 a.1 k.2).map fun σ' => (ρ, σ'))) (runB r)
  | .augA o n op e r => fun ρ σ => thenB ((runE ns C o ρ σ).bind fun y => (attrV y.1 n y.2).bind fun old => (runE ns C e ρ y.2).bind fun v => (augOp op old v.1).bind fun w => (setAttrV y.1 n w v.2).map fun σ' => (.next, ρ, σ')) (runB r)
  | .augI o i op e r => fun ρ σ => thenB ((runE ns C o ρ σ).bind fun x => (runE ns C i ρ x.2).bind fun k => (idxV x.1 k.1 k.2).bind fun old => (runE ns C e ρ k.2).bind fun v => (augOp op old v.1).bind fun w => (setIdxV x.1 k.1 w v.2).map fun σ' => (.next, ρ, σ')) (runB r)
  | .iff t b o r => fun ρ σ => thenB ((asB (runE ns C t) ρ σ).bind fun c => if c.1 then runB b ρ c.2 else runB o ρ c.2) (runB r)
  | .for1 k i it b r => fun ρ σ => thenB ((itK k (runE ns C it) ρ σ).bind fun x => loopV (fun v ρ' σ' => (setAt i v ρ').bind fun ρ'' => runB b ρ'' σ') x.1 x.1.1 ρ x.2) (runB r)
  | .for2 i j it b r => fun ρ σ => thenB ((itK .plain (runE ns C it) ρ σ).bind fun x => loopV (fun v ρ' σ' => (set2At i j v ρ').bind fun ρ'' => runB b ρ'' σ') x.1 x.1.1 ρ x.2) (runB r)
  | .whil t b r => fun ρ σ => thenB (whileV (asB (runE ns C t)) (runB b) W ρ σ) (runB r)
end
theorem dAt : ¬ (BoolOp.And = .And ∧ true = false ∨ BoolOp.And = .Or ∧ true = true) := by decide
theorem dAf : BoolOp.And = .And ∧ false = false ∨ BoolOp.And = .Or ∧ false = true := by decide
theorem dOt : BoolOp.Or = .And ∧ true = false ∨ BoolOp.Or = .Or ∧ true = true := by decide
theorem dOf : ¬ (BoolOp.Or = .And ∧ false = false ∨ BoolOp.Or = .Or ∧ false = true) := by decide
end Mine
end
-- N5
section
namespace Mine
open PySem
@[reducible] noncomputable def ir_children : IS := (.set 1 (.subK (.var 0) 0) (.iff (.cmp .Eq (.var 1) (.str 0)) (.ret (.tup (.cons (.subK (.var 0) 3) .nil))) .done (.iff (.tor (.cmp .Eq (.var 1) (.str 5)) (.tor (.cmp .Eq (.var 1) (.str 6)) (.bool false))) (.ret (.tup (.cons (.subK (.var 0) 2) .nil))) .done (.iff (.tor (.cmp .Eq (.var 1) (.str 7)) (.tor (.cmp .Eq (.var 1) (.str 8)) (.bool false))) (.ret (.tup (.cons (.subK (.var 0) 2) (.cons (.subK (.var 0) 3) .nil)))) .done (.iff (.cmp .Eq (.var 1) (.str 1)) (.ret (.tup (.cons (.subK (.var 0) 3) .nil))) .done (.iff (.cmp .Eq (.var 1) (.str 2)) (.ret (.tup (.cons (.subK (.var 0) 3) (.cons (.subK (.var 0) 4) .nil)))) .done (.iff (.cmp .Eq (.var 1) (.str 3)) (.ret (.tup (.cons (.subK (.var 0) 2) (.cons (.subK (.var 0) 3) (.cons (.subK (.var 0) 4) .nil))))) .done (.iff (.cmp .Eq (.var 1) (.str 4)) (.ret (.subK (.var 0) 2)) .done (.iff (.tor (.cmp .Eq (.var 1) (.str 9)) (.tor (.cmp .Eq (.var 1) (.str 10)) (.bool false))) (.ret (.subK (.var 0) 3)) .done (.ret (.tup .nil)))))))))))
@[reducible] noncomputable def ir_subexpressions : IS := (.set 1 (.list .nil) (.set 2 (.list (.cons (.var 0) .nil)) (.whil (.tval (.var 2)) (.set 3 (.pop (.var 2) .nil) (.expr (.app (.var 1) (.cons (.var 3) .nil)) (.for1 .rev 4 (.cons (.call .children (.cons (.var 3) .nil)) .nil) (.expr (.app (.var 2) (.cons (.var 4) .nil)) .done) .done))) (.ret (.var 1)))))
@[reducible] noncomputable def ir_expr_reads : IS := (.set 1 .dict (.for1 .plain 2 (.call .subexpressions (.cons (.var 0) .nil)) (.iff (.tor (.cmp .Eq (.subK (.var 2) 0) (.str 11)) (.tor (.cmp .Eq (.subK (.var 2) 0) (.str 0)) (.tor (.cmp .Eq (.subK (.var 2) 0) (.str 12)) (.bool false)))) (.setI (.var 1) (.subK (.var 2) 2) (.bool true) .done) .done .done) (.ret (.bi .sorted (.cons (.var 1) .nil)))))
@[reducible] noncomputable def ir_mkInit : IS := (.setA (.var 0) 56 (.var 1) (.setA (.var 0) 57 (.list .nil) .done))
@[reducible] noncomputable def ir_emit : IS := (.expr (.app (.attr (.var 0) 57) (.cons (.var 1) .nil)) (.ret (.bin .Sub (.bi .len (.cons (.attr (.var 0) 57) .nil)) (.int 1))))
@[reducible] noncomputable def ir_here : IS := (.ret (.bi .len (.cons (.attr (.var 0) 57) .nil)))
@[reducible] noncomputable def ir_new_slot : IS := (.set 1 (.attr (.var 0) 56) (.augA (.var 0) 56 .Add (.int 1) (.ret (.var 1))))
@[reducible] noncomputable def ir_aim : IS := (.set 2 (.sub (.attr (.var 0) 57) (.var 1)) (.iff (.cmp .Eq (.subK (.var 2) 0) (.str 21)) (.setI (.attr (.var 0) 57) (.var 1) (.tup (.cons (.str 21) (.cons (.subK (.var 2) 1) (.cons (.meth .here (.var 0) .nil) .nil)))) .done) (.setI (.attr (.var 0) 57) (.var 1) (.bin .Add (.hi (.var 2) (-1)) (.tup (.cons (.meth .here (.var 0) .nil) .nil))) .done) .done))
@[reducible] noncomputable def ir_control : IS := (.iff (.cmp .Eq (.subK (.var 1) 0) (.str 30)) (.expr (.meth .emit (.var 0) (.cons (.tup (.cons (.str 30) (.cons (.subK (.var 1) 1) .nil))) .nil)) .done) (.expr (.meth .emit (.var 0) (.cons (.tup (.cons (.str 31) (.cons (.subK (.var 1) 1) .nil))) .nil)) .done) .done)
@[reducible] noncomputable def ir_assignment : IS := (.iff (.cmp .Is (.subK (.var 1) 3) .none) (.expr (.meth .emit (.var 0) (.cons (.tup (.cons (.str 28) (.cons (.subK (.var 1) 1) (.cons (.subK (.var 1) 2) .nil)))) .nil)) .retN) .done (.set 2 (.meth .new_slot (.var 0) .nil) (.expr (.meth .emit (.var 0) (.cons (.tup (.cons (.str 47) (.cons (.var 2) (.cons (.subK (.var 1) 2) .nil)))) .nil)) (.expr (.meth .control (.var 0) (.cons (.subK (.var 1) 3) .nil)) (.expr (.meth .emit (.var 0) (.cons (.tup (.cons (.str 28) (.cons (.subK (.var 1) 1) (.cons (.tup (.cons (.str 49) (.cons (.subK (.subK (.var 1) 2) 1) (.cons (.var 2) .nil)))) .nil)))) .nil)) .done)))))
@[reducible] noncomputable def ir_nonblocking : IS := (.set 2 .none (.iff (.cmp .IsNot (.subK (.var 1) 3) .none) (.set 2 (.subK (.subK (.var 1) 3) 1) .done) .done (.expr (.meth .emit (.var 0) (.cons (.tup (.cons (.str 29) (.cons (.subK (.var 1) 1) (.cons (.subK (.var 1) 2) (.cons (.var 2) .nil))))) .nil)) .done)))
@[reducible] noncomputable def ir_branch : IS := (.set 2 (.meth .emit (.var 0) (.cons (.tup (.cons (.str 19) (.cons (.subK (.var 1) 1) (.cons (.neg (.int 1)) .nil)))) .nil)) (.expr (.meth .make (.var 0) (.cons (.subK (.var 1) 2) .nil)) (.iff (.cmp .Is (.subK (.var 1) 3) .none) (.expr (.meth .aim (.var 0) (.cons (.var 2) .nil)) .retN) .done (.set 3 (.meth .emit (.var 0) (.cons (.tup (.cons (.str 14) (.cons (.neg (.int 1)) .nil))) .nil)) (.expr (.meth .aim (.var 0) (.cons (.var 2) .nil)) (.expr (.meth .make (.var 0) (.cons (.subK (.var 1) 3) .nil)) (.expr (.meth .aim (.var 0) (.cons (.var 3) .nil)) .done)))))))
@[reducible] noncomputable def ir_selT2 : IS := (.expr (.meth .make (.var 0) (.cons (.var 5) .nil)) (.set 10 (.list (.cons (.meth .emit (.var 0) (.cons (.tup (.cons (.str 14) (.cons (.neg (.int 1)) .nil))) .nil)) .nil)) (.for2 8 7 (.var 4) (.for1 .plain 11 (.var 8) (.expr (.meth .aim (.var 0) (.cons (.var 11) .nil)) .done) (.expr (.meth .make (.var 0) (.cons (.var 7) .nil)) (.expr (.app (.var 10) (.cons (.meth .emit (.var 0) (.cons (.tup (.cons (.str 14) (.cons (.neg (.int 1)) .nil))) .nil)) .nil)) .done))) (.for1 .plain 11 (.var 10) (.expr (.meth .aim (.var 0) (.cons (.var 11) .nil)) .done) .done))))
@[reducible] noncomputable def ir_selT1 : IS := (.set 4 (.list .nil) (.set 5 .none (.for2 6 7 (.subK (.var 1) 3) (.iff (.cmp .Is (.var 6) .none) (.set 5 (.var 7) .cont) .done (.set 8 (.list .nil) (.for1 .plain 9 (.var 6) (.expr (.app (.var 8) (.cons (.meth .emit (.var 0) (.cons (.tup (.cons (.str 17) (.cons (.subK (.var 1) 1) (.cons (.var 2) (.cons (.var 9) (.cons (.neg (.int 1)) .nil)))))) .nil)) .nil)) .done) (.expr (.app (.var 4) (.cons (.tup (.cons (.var 8) (.cons (.var 7) .nil))) .nil)) .done)))) ir_selT2)))
@[reducible] noncomputable def ir_selection : IS := (.set 2 (.subK (.var 1) 2) (.iff (.cmp .NotEq (.subK (.var 2) 0) (.str 44)) (.set 3 (.meth .new_slot (.var 0) .nil) (.expr (.meth .emit (.var 0) (.cons (.tup (.cons (.str 47) (.cons (.var 3) (.cons (.var 2) .nil)))) .nil)) (.set 2 (.tup (.cons (.str 49) (.cons (.subK (.var 2) 1) (.cons (.var 3) .nil)))) .done))) .done ir_selT1))
@[reducible] noncomputable def ir_loop : IS := (.set 4 (.meth .here (.var 0) .nil) (.set 5 (.meth .emit (.var 0) (.cons (.tup (.cons (.str 19) (.cons (.var 1) (.cons (.neg (.int 1)) .nil)))) .nil)) (.expr (.meth .make (.var 0) (.cons (.var 2) .nil)) (.expr (.meth .make (.var 0) (.cons (.var 3) .nil)) (.expr (.meth .emit (.var 0) (.cons (.tup (.cons (.str 14) (.cons (.var 4) .nil))) .nil)) (.expr (.meth .aim (.var 0) (.cons (.var 5) .nil)) .done))))))
@[reducible] noncomputable def ir_repetition : IS := (.set 2 (.meth .new_slot (.var 0) .nil) (.expr (.meth .emit (.var 0) (.cons (.tup (.cons (.str 51) (.cons (.var 2) (.cons (.subK (.var 1) 1) (.cons (.subK (.var 1) 2) .nil))))) .nil)) (.set 3 (.meth .emit (.var 0) (.cons (.tup (.cons (.str 20) (.cons (.var 2) (.cons (.neg (.int 1)) .nil)))) .nil)) (.expr (.meth .make (.var 0) (.cons (.subK (.var 1) 3) .nil)) (.expr (.meth .emit (.var 0) (.cons (.tup (.cons (.str 14) (.cons (.var 3) .nil))) .nil)) (.expr (.meth .aim (.var 0) (.cons (.var 3) .nil)) .done))))))
@[reducible] noncomputable def ir_scoped : IS := (.iff (.cmp .Lt (.var 1) (.int 0)) (.ret (.neg (.int 1))) .done (.ret (.meth .emit (.var 0) (.cons (.tup (.cons (.str 21) (.cons (.var 1) (.cons (.neg (.int 1)) .nil)))) .nil))))
@[reducible] noncomputable def ir_close : IS := (.iff (.cmp .GtE (.var 1) (.int 0)) (.expr (.meth .emit (.var 0) (.cons (.tup (.cons (.str 22) (.cons (.var 2) .nil))) .nil)) (.expr (.meth .aim (.var 0) (.cons (.var 1) .nil)) .done)) .done .done)
@[reducible] noncomputable def ir_block : IS := (.set 2 (.meth .scoped (.var 0) (.cons (.subK (.var 1) 2) .nil)) (.for1 .plain 3 (.subK (.var 1) 1) (.expr (.meth .make (.var 0) (.cons (.var 3) .nil)) .done) (.expr (.meth .close (.var 0) (.cons (.var 2) (.cons (.subK (.var 1) 2) .nil))) .done)))
@[reducible] noncomputable def ir_parallel : IS := (.set 2 (.meth .scoped (.var 0) (.cons (.subK (.var 1) 2) .nil)) (.set 3 (.meth .emit (.var 0) (.cons (.tup (.cons (.str 18) (.cons (.tup .nil) (.cons (.subK (.var 1) 2) .nil)))) .nil)) (.expr (.meth .emit (.var 0) (.cons (.tup (.cons (.str 52) .nil)) .nil)) (.iff (.cmp .GtE (.var 2) (.int 0)) (.expr (.meth .emit (.var 0) (.cons (.tup (.cons (.str 22) (.cons (.subK (.var 1) 2) .nil))) .nil)) .done) .done (.set 4 (.meth .emit (.var 0) (.cons (.tup (.cons (.str 14) (.cons (.neg (.int 1)) .nil))) .nil)) (.set 5 (.list .nil) (.for1 .plain 6 (.subK (.var 1) 1) (.expr (.app (.var 5) (.cons (.meth .here (.var 0) .nil) .nil)) (.expr (.meth .make (.var 0) (.cons (.var 6) .nil)) (.expr (.meth .emit (.var 0) (.cons (.tup (.cons (.str 15) .nil)) .nil)) .done))) (.setI (.attr (.var 0) 57) (.var 3) (.tup (.cons (.str 18) (.cons (.bi .tuple (.cons (.var 5) .nil)) (.cons (.subK (.var 1) 2) .nil)))) (.expr (.meth .aim (.var 0) (.cons (.var 4) .nil)) (.iff (.cmp .GtE (.var 2) (.int 0)) (.expr (.meth .aim (.var 0) (.cons (.var 2) .nil)) .done) .done .done))))))))))
@[reducible] noncomputable def ir_waiting : IS := (.iff (.cmp .Eq (.subK (.var 1) 0) (.str 30)) (.expr (.meth .emit (.var 0) (.cons (.tup (.cons (.str 30) (.cons (.subK (.var 1) 1) .nil))) .nil)) .done) (.iff (.cmp .Eq (.subK (.var 1) 0) (.str 31)) (.expr (.meth .emit (.var 0) (.cons (.tup (.cons (.str 31) (.cons (.subK (.var 1) 1) .nil))) .nil)) .done) (.expr (.meth .emit (.var 0) (.cons (.tup (.cons (.str 48) (.cons (.subK (.var 1) 1) (.cons (.bi .tuple (.cons (.call .expr_reads (.cons (.subK (.var 1) 1) .nil)) .nil)) .nil)))) .nil)) .done) .done) (.expr (.meth .make (.var 0) (.cons (.subK (.var 1) 2) .nil)) .done))
@[reducible] noncomputable def ir_looping : IS := (.iff (.cmp .Eq (.subK (.var 1) 0) (.str 39)) (.expr (.meth .make (.var 0) (.cons (.subK (.var 1) 1) .nil)) (.expr (.meth .loop (.var 0) (.cons (.subK (.var 1) 2) (.cons (.subK (.var 1) 4) (.cons (.subK (.var 1) 3) .nil)))) .done)) (.iff (.cmp .Eq (.subK (.var 1) 0) (.str 40)) (.expr (.meth .loop (.var 0) (.cons (.subK (.var 1) 1) (.cons (.subK (.var 1) 2) (.cons .none .nil)))) .done) (.iff (.cmp .Eq (.subK (.var 1) 0) (.str 41)) (.expr (.meth .repetition (.var 0) (.cons (.var 1) .nil)) .done) (.set 2 (.meth .here (.var 0) .nil) (.expr (.meth .make (.var 0) (.cons (.subK (.var 1) 1) .nil)) (.expr (.meth .emit (.var 0) (.cons (.tup (.cons (.str 14) (.cons (.var 2) .nil))) .nil)) .done))) .done) .done) .done)
@[reducible] noncomputable def ir_make : IS := (.iff (.cmp .Is (.var 1) .none) .retN .done (.set 2 (.subK (.var 1) 0) (.iff (.cmp .Eq (.var 2) (.str 28)) (.expr (.meth .assignment (.var 0) (.cons (.var 1) .nil)) .done) (.iff (.cmp .Eq (.var 2) (.str 29)) (.expr (.meth .nonblocking (.var 0) (.cons (.var 1) .nil)) .done) (.iff (.cmp .Eq (.var 2) (.str 36)) (.expr (.meth .branch (.var 0) (.cons (.var 1) .nil)) .done) (.iff (.cmp .Eq (.var 2) (.str 37)) (.expr (.meth .selection (.var 0) (.cons (.var 1) .nil)) .done) (.iff (.cmp .Eq (.var 2) (.str 43)) (.expr (.meth .block (.var 0) (.cons (.var 1) .nil)) .done) (.iff (.cmp .Eq (.var 2) (.str 18)) (.expr (.meth .parallel (.var 0) (.cons (.var 1) .nil)) .done) (.iff (.cmp .In (.var 2) (.tup (.cons (.str 39) (.cons (.str 40) (.cons (.str 41) (.cons (.str 42) .nil)))))) (.expr (.meth .looping (.var 0) (.cons (.var 1) .nil)) .done) (.iff (.cmp .In (.var 2) (.tup (.cons (.str 30) (.cons (.str 31) (.cons (.str 46) .nil))))) (.expr (.meth .waiting (.var 0) (.cons (.var 1) .nil)) .done) (.expr (.meth .emit (.var 0) (.cons (.var 1) .nil)) .done) .done) .done) .done) .done) .done) .done) .done) .done)))
@[reducible] noncomputable def ir_compile_process : IS := (.set 1 (.new .maker (.cons (.int 0) .nil)) (.expr (.meth .make (.var 1) (.cons (.attr (.var 0) 55) .nil)) (.iff (.cmp .Eq (.attr (.var 0) 69) (.str 13)) (.expr (.meth .emit (.var 1) (.cons (.tup (.cons (.str 14) (.cons (.int 0) .nil))) .nil)) .done) (.expr (.meth .emit (.var 1) (.cons (.tup (.cons (.str 15) .nil)) .nil)) .done) (.ret (.tup (.cons (.attr (.var 1) 57) (.cons (.attr (.var 1) 56) .nil)))))))
@[reducible] noncomputable def ir_compile_routine : IS := (.set 2 (.new .maker (.cons (.bi .len (.cons (.attr (.var 0) 56) .nil)) .nil)) (.set 3 (.meth .scoped (.var 2) (.cons (.var 1) .nil)) (.expr (.meth .make (.var 2) (.cons (.attr (.var 0) 55) .nil)) (.expr (.meth .close (.var 2) (.cons (.var 3) (.cons (.var 1) .nil))) (.expr (.meth .emit (.var 2) (.cons (.tup (.cons (.str 16) .nil)) .nil)) (.ret (.tup (.cons (.attr (.var 2) 57) (.cons (.attr (.var 2) 56) .nil)))))))))
@[reducible] noncomputable def ir_row_targets : IS := (.set 1 (.subK (.var 0) 0) (.iff (.cmp .Eq (.var 1) (.str 14)) (.ret (.tup (.cons (.subK (.var 0) 1) .nil))) .done (.iff (.tor (.cmp .Eq (.var 1) (.str 19)) (.tor (.cmp .Eq (.var 1) (.str 20)) (.tor (.cmp .Eq (.var 1) (.str 21)) (.bool false)))) (.ret (.tup (.cons (.subK (.var 0) 2) .nil))) .done (.iff (.cmp .Eq (.var 1) (.str 17)) (.ret (.tup (.cons (.subK (.var 0) 4) .nil))) .done (.iff (.cmp .Eq (.var 1) (.str 18)) (.ret (.subK (.var 0) 1)) .done (.ret (.tup .nil)))))))
@[reducible] noncomputable def ir_falls_through : IS := (.ret (.cmp .NotIn (.subK (.var 0) 0) (.tup (.cons (.str 14) (.cons (.str 15) (.cons (.str 16) .nil))))))
@[reducible] noncomputable def ir_scopes_behind : IS := (.iff (.cmp .Eq (.subK (.var 0) 0) (.str 21)) (.ret (.bin .Add (.var 1) (.tup (.cons (.subK (.var 0) 1) .nil)))) .done (.iff (.cmp .Eq (.subK (.var 0) 0) (.str 22)) (.iff (.tor (.cmp .Eq (.bi .len (.cons (.var 1) .nil)) (.int 0)) (.tor (.cmp .NotEq (.last (.var 1)) (.subK (.var 0) 1)) (.bool false))) (.ret .none) .done (.ret (.hi (.var 1) (-1)))) .done (.ret (.var 1))))
@[reducible] noncomputable def ir_target_faults : IS := (.set 1 (.list .nil) (.for1 .range 2 (.cons (.bi .len (.cons (.var 0) .nil)) .nil) (.for1 .plain 3 (.call .row_targets (.cons (.sub (.var 0) (.var 2)) .nil)) (.iff (.tor (.cmp .Lt (.var 3) (.int 0)) (.tor (.cmp .GtE (.var 3) (.bi .len (.cons (.var 0) .nil))) (.bool false))) (.expr (.app (.var 1) (.cons (.tup (.cons (.var 2) (.cons (.str 24) .nil))) .nil)) .done) .done .done) .done) (.iff (.tor (.cmp .Eq (.bi .len (.cons (.var 0) .nil)) (.int 0)) (.tor (.tval (.call .falls_through (.cons (.last (.var 0)) .nil))) (.bool false))) (.expr (.app (.var 1) (.cons (.tup (.cons (.bi .len (.cons (.var 0) .nil)) (.cons (.str 23) .nil))) .nil)) .done) .done (.ret (.var 1)))))
@[reducible] noncomputable def ir_scope_faults : IS := (.set 1 (.list .nil) (.set 2 .dict (.set 3 (.list (.cons (.tup (.cons (.int 0) (.cons (.tup .nil) .nil))) .nil)) (.whil (.cmp .Gt (.bi .len (.cons (.var 3) .nil)) (.int 0)) (.set2 4 5 (.pop (.var 3) .nil) (.iff (.cmp .In (.var 4) (.var 2)) (.iff (.cmp .NotEq (.sub (.var 2) (.var 4)) (.var 5)) (.expr (.app (.var 1) (.cons (.tup (.cons (.var 4) (.cons (.str 27) .nil))) .nil)) .done) .done .cont) .done (.setI (.var 2) (.var 4) (.var 5) (.set 6 (.sub (.var 0) (.var 4)) (.set 7 (.call .scopes_behind (.cons (.var 6) (.cons (.var 5) .nil))) (.iff (.cmp .Is (.var 7) .none) (.expr (.app (.var 1) (.cons (.tup (.cons (.var 4) (.cons (.str 25) .nil))) .nil)) .cont) .done (.iff (.tand (.tnot (.tval (.call .falls_through (.cons (.var 6) .nil)))) (.tand (.cmp .NotEq (.subK (.var 6) 0) (.str 14)) (.tand (.cmp .Gt (.bi .len (.cons (.var 5) .nil)) (.int 0)) (.bool true)))) (.expr (.app (.var 1) (.cons (.tup (.cons (.var 4) (.cons (.str 26) .nil))) .nil)) .done) .done (.for1 .plain 8 (.call .row_targets (.cons (.var 6) .nil)) (.iff (.cmp .Eq (.subK (.var 6) 0) (.str 18)) (.expr (.app (.var 3) (.cons (.tup (.cons (.var 8) (.cons (.tup .nil) .nil))) .nil)) .done) (.expr (.app (.var 3) (.cons (.tup (.cons (.var 8) (.cons (.var 5) .nil))) .nil)) .done) .done) (.iff (.tval (.call .falls_through (.cons (.var 6) .nil))) (.expr (.app (.var 3) (.cons (.tup (.cons (.bin .Add (.var 4) (.int 1)) (.cons (.var 7) .nil))) .nil)) .done) .done .done))))))))) (.ret (.bi .sorted (.cons (.var 1) .nil)))))))
@[reducible] noncomputable def ir_thInit : IS := (.setA (.var 0) 58 (.var 1) (.setA (.var 0) 57 (.var 2) (.setA (.var 0) 59 (.var 3) (.setA (.var 0) 60 (.var 4) (.setA (.var 0) 61 (.var 5) (.setA (.var 0) 62 (.list .nil) (.setA (.var 0) 63 (.list .nil) (.setA (.var 0) 64 (.neg (.int 1)) (.setA (.var 0) 65 .dict (.setA (.var 0) 66 (.bool false) (.setA (.var 0) 46 .none (.setA (.var 0) 67 (.int 0) (.setA (.var 0) 68 (.bool false) (.setA (.var 0) 20 (.bool false) .done))))))))))))))
@[reducible] noncomputable def ir_law_bag : IS := (.set 1 (.list (.cons (.int 0) (.cons (.int 1) .nil))) (.for1 .plain 2 (.hi (.bi .list (.cons (.var 0) .nil)) 20) (.expr (.app (.var 1) (.cons (.bi .int (.cons (.var 2) .nil)) .nil)) (.setI (.var 1) (.int 1) (.bin .Mod (.bin .Add (.bin .Add (.bin .Mult (.subK (.var 1) 1) (.int 31)) (.bin .Mod (.bi .int (.cons (.var 2) .nil)) (.int 9973))) (.int 1)) (.int 1000003)) .done)) (.ret (.var 1))))
@[reducible] noncomputable def ir_law_pull : IS := (.iff (.cmp .Eq (.subK (.var 0) 0) (.int 0)) (.iff (.cmp .Gt (.bi .len (.cons (.var 0) .nil)) (.int 2)) (.set 2 (.pop (.var 0) (.cons (.int 2) .nil)) (.setI (.var 0) (.int 0) (.ife (.cmp .GtE (.var 2) (.int 0)) (.bin .Mult (.int 2) (.var 2)) (.bin .Sub (.bin .Mult (.neg (.int 2)) (.var 2)) (.int 1))) .done)) (.setI (.var 0) (.int 1) (.bin .Mod (.bin .Add (.bin .Mult (.subK (.var 0) 1) (.int 69069)) (.int 12345)) (.int 4294967296)) (.setI (.var 0) (.int 0) (.bin .FloorDiv (.subK (.var 0) 1) (.int 16)) .done)) .done) .done (.set 3 (.bin .Mod (.bi .int (.cons (.subK (.var 0) 0) .nil)) (.var 1)) (.setI (.var 0) (.int 0) (.bin .FloorDiv (.subK (.var 0) 0) (.var 1)) (.ret (.var 3)))))
@[reducible] noncomputable def ir_law_new : IS := (.augI (.var 0) (.int 0) .Add (.int 1) (.ret (.tup (.cons (.str 11) (.cons (.int 4) (.cons (.subK (.var 0) 0) .nil))))))
@[reducible] noncomputable def ir_law_scope : IS := (.iff (.cmp .Eq (.call .law_pull (.cons (.var 0) (.cons (.int 2) .nil))) (.int 0)) (.ret (.neg (.int 1))) .done (.augI (.var 1) (.int 2) .Add (.int 1) (.ret (.subK (.var 1) 2))))
@[reducible] noncomputable def ir_law_plain : IS := (.set 2 (.call .law_pull (.cons (.var 0) (.cons (.int 8) .nil))) (.iff (.cmp .Eq (.var 2) (.int 0)) (.ret (.tup (.cons (.str 29) (.cons (.int 7) (.cons (.call .law_new (.cons (.var 1) .nil)) (.cons .none .nil)))))) .done (.iff (.cmp .Eq (.var 2) (.int 1)) (.ret (.tup (.cons (.str 29) (.cons (.int 7) (.cons (.call .law_new (.cons (.var 1) .nil)) (.cons (.tup (.cons (.str 30) (.cons (.call .law_new (.cons (.var 1) .nil)) .nil))) .nil)))))) .done (.iff (.cmp .Eq (.var 2) (.int 2)) (.ret (.tup (.cons (.str 28) (.cons (.int 5) (.cons (.call .law_new (.cons (.var 1) .nil)) (.cons (.tup (.cons (.str 30) (.cons (.call .law_new (.cons (.var 1) .nil)) .nil))) .nil)))))) .done (.iff (.cmp .Eq (.var 2) (.int 3)) (.ret (.tup (.cons (.str 28) (.cons (.int 5) (.cons (.call .law_new (.cons (.var 1) .nil)) (.cons (.tup (.cons (.str 31) (.cons (.tup (.cons (.tup (.cons (.str 35) (.cons (.call .law_new (.cons (.var 1) .nil)) .nil))) .nil)) .nil))) .nil)))))) .done (.iff (.cmp .Eq (.var 2) (.int 4)) (.augI (.var 1) (.int 0) .Add (.int 1) (.ret (.tup (.cons (.sub (.tup (.cons (.str 32) (.cons (.str 33) .nil))) (.call .law_pull (.cons (.var 0) (.cons (.int 2) .nil)))) (.cons (.subK (.var 1) 0) .nil))))) .done (.iff (.cmp .Eq (.var 2) (.int 5)) (.augI (.var 1) (.int 0) .Add (.int 1) (.ret (.sub (.tup (.cons (.tup (.cons (.str 9) (.cons (.subK (.var 1) 0) (.cons (.tup .nil) (.cons (.tup .nil) .nil))))) (.cons (.tup (.cons (.str 10) (.cons (.str 34) (.cons (.tup (.cons (.subK (.var 1) 0) .nil)) .nil)))) .nil))) (.call .law_pull (.cons (.var 0) (.cons (.int 2) .nil)))))) .done (.ret (.tup (.cons (.str 28) (.cons (.int 6) (.cons (.call .law_new (.cons (.var 1) .nil)) (.cons .none .nil)))))))))))))
@[reducible] noncomputable def ir_law_parts : IS := (.ret (.bi .tuple (.cons (.lc .range [none, none, none, some 0, some 1, some 2] 1 (.cons (.bin .Add (.var 3) (.call .law_pull (.cons (.var 0) (.cons (.int 3) .nil)))) .nil) (.bool true) (.call .law_tree (.cons (.var 3) (.cons (.var 4) (.cons (.var 5) .nil))))) .nil)))
@[reducible] noncomputable def ir_law_tree : IS := (.iff (.cmp .Eq (.subK (.var 2) 1) (.int 0)) (.ret .none) .done (.augI (.var 2) (.int 1) .Sub (.int 1) (.set 3 (.call .law_pull (.cons (.var 0) (.cons (.int 13) .nil))) (.iff (.tor (.cmp .Eq (.var 1) (.int 0)) (.tor (.cmp .Lt (.var 3) (.int 2)) (.bool false))) (.ret (.ife (.cmp .Eq (.var 3) (.int 12)) .none (.call .law_plain (.cons (.var 0) (.cons (.var 2) .nil))))) .done (.iff (.cmp .Eq (.var 3) (.int 2)) (.set 4 (.call .law_new (.cons (.var 2) .nil)) (.set 5 (.call .law_tree (.cons (.var 0) (.cons (.bin .Sub (.var 1) (.int 1)) (.cons (.var 2) .nil)))) (.ret (.tup (.cons (.str 36) (.cons (.var 4) (.cons (.var 5) (.cons (.call .law_tree (.cons (.var 0) (.cons (.bin .Sub (.var 1) (.int 1)) (.cons (.var 2) .nil)))) .nil)))))))) .done (.iff (.tor (.cmp .Eq (.var 3) (.int 3)) (.tor (.cmp .Eq (.var 3) (.int 4)) (.bool false))) (.set 4 (.ife (.cmp .Eq (.var 3) (.int 3)) (.call .law_new (.cons (.var 2) .nil)) (.tup (.cons (.str 44) (.cons (.int 4) (.cons (.int 5) (.cons (.int 0) .nil)))))) (.set 5 (.tup (.cons (.tup (.cons (.tup (.cons (.str 44) (.cons (.int 4) (.cons (.int 1) (.cons (.int 0) .nil))))) (.cons (.tup (.cons (.str 44) (.cons (.int 4) (.cons (.int 2) (.cons (.int 0) .nil))))) .nil))) (.cons (.call .law_tree (.cons (.var 0) (.cons (.bin .Sub (.var 1) (.int 1)) (.cons (.var 2) .nil)))) .nil))) (.set 6 (.tup (.cons .none (.cons (.call .law_tree (.cons (.var 0) (.cons (.bin .Sub (.var 1) (.int 1)) (.cons (.var 2) .nil)))) .nil))) (.set 7 (.tup (.cons (.tup (.cons (.tup (.cons (.str 44) (.cons (.int 4) (.cons (.int 3) (.cons (.int 0) .nil))))) .nil)) (.cons (.call .law_tree (.cons (.var 0) (.cons (.bin .Sub (.var 1) (.int 1)) (.cons (.var 2) .nil)))) .nil))) (.ret (.tup (.cons (.str 37) (.cons (.str 38) (.cons (.var 4) (.cons (.sub (.tup (.cons (.tup (.cons (.var 5) (.cons (.var 7) .nil))) (.cons (.tup (.cons (.var 6) (.cons (.var 5) (.cons (.var 7) .nil)))) (.cons (.tup (.cons (.var 5) (.cons (.var 6) .nil))) .nil)))) (.call .law_pull (.cons (.var 0) (.cons (.int 3) .nil)))) .nil)))))))))) .done (.iff (.cmp .Eq (.var 3) (.int 5)) (.set 5 (.call .law_plain (.cons (.var 0) (.cons (.var 2) .nil))) (.set 4 (.call .law_new (.cons (.var 2) .nil)) (.set 6 (.call .law_plain (.cons (.var 0) (.cons (.var 2) .nil))) (.ret (.tup (.cons (.str 39) (.cons (.var 5) (.cons (.var 4) (.cons (.var 6) (.cons (.call .law_tree (.cons (.var 0) (.cons (.bin .Sub (.var 1) (.int 1)) (.cons (.var 2) .nil)))) .nil)))))))))) .done (.iff (.cmp .Eq (.var 3) (.int 6)) (.ret (.tup (.cons (.str 40) (.cons (.call .law_new (.cons (.var 2) .nil)) (.cons (.call .law_tree (.cons (.var 0) (.cons (.bin .Sub (.var 1) (.int 1)) (.cons (.var 2) .nil)))) .nil))))) .done (.iff (.cmp .Eq (.var 3) (.int 7)) (.ret (.tup (.cons (.str 41) (.cons (.call .law_new (.cons (.var 2) .nil)) (.cons (.bool true) (.cons (.call .law_tree (.cons (.var 0) (.cons (.bin .Sub (.var 1) (.int 1)) (.cons (.var 2) .nil)))) .nil)))))) .done (.iff (.cmp .Eq (.var 3) (.int 8)) (.ret (.tup (.cons (.str 42) (.cons (.call .law_tree (.cons (.var 0) (.cons (.bin .Sub (.var 1) (.int 1)) (.cons (.var 2) .nil)))) .nil)))) .done (.iff (.cmp .Eq (.var 3) (.int 9)) (.set 8 (.call .law_scope (.cons (.var 0) (.cons (.var 2) .nil))) (.ret (.tup (.cons (.str 43) (.cons (.call .law_parts (.cons (.var 0) (.cons (.bin .Sub (.var 1) (.int 1)) (.cons (.var 2) (.cons (.int 0) .nil))))) (.cons (.var 8) .nil)))))) .done (.iff (.cmp .Eq (.var 3) (.int 10)) (.set 8 (.call .law_scope (.cons (.var 0) (.cons (.var 2) .nil))) (.ret (.tup (.cons (.str 18) (.cons (.call .law_parts (.cons (.var 0) (.cons (.bin .Sub (.var 1) (.int 1)) (.cons (.var 2) (.cons (.int 1) .nil))))) (.cons (.var 8) .nil)))))) .done (.set 4 (.call .law_new (.cons (.var 2) .nil)) (.iff (.cmp .Eq (.var 3) (.int 11)) (.ret (.tup (.cons (.sub (.tup (.cons (.str 30) (.cons (.str 46) .nil))) (.call .law_pull (.cons (.var 0) (.cons (.int 2) .nil)))) (.cons (.var 4) (.cons (.call .law_tree (.cons (.var 0) (.cons (.bin .Sub (.var 1) (.int 1)) (.cons (.var 2) .nil)))) .nil))))) .done (.ret (.tup (.cons (.str 31) (.cons (.tup (.cons (.tup (.cons (.str 45) (.cons (.var 4) .nil))) (.cons (.tup (.cons (.str 45) (.cons (.tup (.cons (.str 12) (.cons (.int 1) (.cons (.int 3) .nil)))) .nil))) .nil))) (.cons (.call .law_tree (.cons (.var 0) (.cons (.bin .Sub (.var 1) (.int 1)) (.cons (.var 2) .nil)))) .nil)))))))))))))))))))
@[reducible] noncomputable def ir_law_acts : IS := (.iff (.cmp .Is (.var 0) .none) .retN .done (.set 3 (.subK (.var 0) 0) (.set 4 (.tup .nil) (.iff (.cmp .Eq (.var 3) (.str 28)) (.iff (.cmp .IsNot (.subK (.var 0) 3) .none) (.expr (.app (.var 1) (.cons (.tup (.cons (.str 47) (.cons (.subK (.var 0) 2) .nil))) .nil)) (.expr (.app (.var 1) (.cons (.subK (.var 0) 3) .nil)) .done)) .done (.expr (.app (.var 1) (.cons (.tup (.cons (.str 28) (.cons (.subK (.var 0) 1) (.cons (.ife (.cmp .Is (.subK (.var 0) 3) .none) (.subK (.var 0) 2) .none) .nil)))) .nil)) .done)) (.iff (.cmp .Eq (.var 3) (.str 29)) (.expr (.app (.var 1) (.cons (.tup (.cons (.str 29) (.cons (.subK (.var 0) 1) (.cons (.subK (.var 0) 2) (.cons (.ife (.cmp .Is (.subK (.var 0) 3) .none) .none (.subK (.subK (.var 0) 3) 1)) .nil))))) .nil)) .done) (.iff (.cmp .In (.var 3) (.tup (.cons (.str 32) (.cons (.str 33) (.cons (.str 9) (.cons (.str 10) .nil)))))) (.expr (.app (.var 1) (.cons (.var 0) .nil)) .done) (.iff (.cmp .In (.var 3) (.tup (.cons (.str 30) (.cons (.str 31) (.cons (.str 46) .nil))))) (.expr (.app (.var 1) (.cons (.tup (.cons (.var 3) (.cons (.subK (.var 0) 1) .nil))) .nil)) (.set 4 (.tup (.cons (.subK (.var 0) 2) .nil)) .done)) (.iff (.cmp .Eq (.var 3) (.str 37)) (.iff (.cmp .NotEq (.subK (.subK (.var 0) 2) 0) (.str 44)) (.expr (.app (.var 1) (.cons (.tup (.cons (.str 47) (.cons (.subK (.var 0) 2) .nil))) .nil)) .done) .done (.set 4 (.bin .Add (.lc .plain [none, none] 1 (.subK (.var 0) 3) (.tand (.cmp .Is (.subK (.var 1) 0) .none) (.bool true)) (.subK (.var 1) 1)) (.lc .plain [none, none] 1 (.subK (.var 0) 3) (.tand (.cmp .IsNot (.subK (.var 1) 0) .none) (.bool true)) (.subK (.var 1) 1))) .done)) (.iff (.cmp .Eq (.var 3) (.str 39)) (.set 4 (.tup (.cons (.subK (.var 0) 1) (.cons (.subK (.var 0) 4) (.cons (.subK (.var 0) 3) .nil)))) .done) (.iff (.cmp .Eq (.var 3) (.str 36)) (.set 4 (.tup (.cons (.subK (.var 0) 2) (.cons (.subK (.var 0) 3) .nil))) .done) (.iff (.cmp .In (.var 3) (.tup (.cons (.str 43) (.cons (.str 18) .nil)))) (.set 4 (.subK (.var 0) 1) (.iff (.cmp .GtE (.subK (.var 0) 2) (.int 0)) (.expr (.app (.subK (.var 2) 0) (.cons (.tup (.cons (.subK (.var 0) 2) (.cons (.ife (.cmp .Eq (.var 3) (.str 43)) (.str 22) (.str 15)) .nil))) .nil)) .done) .done (.iff (.cmp .Eq (.var 3) (.str 18)) (.expr (.app (.subK (.var 2) 1) (.cons (.bi .len (.cons (.subK (.var 0) 1) .nil)) .nil)) .done) .done .done))) (.set 4 (.tup (.cons (.last (.var 0)) .nil)) .done) .done) .done) .done) .done) .done) .done) .done) (.for1 .plain 5 (.var 4) (.expr (.call .law_acts (.cons (.var 5) (.cons (.var 1) (.cons (.var 2) .nil)))) .done) .done)))))
@[reducible] noncomputable def ir_law_seen : IS := (.set 2 (.sub (.var 0) (.var 1)) (.iff (.cmp .Eq (.subK (.var 2) 0) (.str 47)) (.ret (.tup (.cons (.str 47) (.cons (.subK (.var 2) 2) .nil)))) .done (.iff (.cmp .Eq (.subK (.var 2) 0) (.str 48)) (.ret (.ife (.cmp .Eq (.subK (.var 2) 2) (.tup (.cons (.subK (.subK (.var 2) 1) 2) .nil))) (.tup (.cons (.str 46) (.cons (.subK (.var 2) 1) .nil))) (.tup (.cons (.str 50) .nil)))) .done (.iff (.tand (.cmp .Eq (.subK (.var 2) 0) (.str 28)) (.tand (.cmp .Eq (.subK (.subK (.var 2) 2) 0) (.str 49)) (.bool true))) (.set 3 (.sub (.var 0) (.bin .Sub (.var 1) (.int 2))) (.set 4 (.and2 (.cmp .Eq (.subK (.var 3) 0) (.str 47)) (.cmp .Eq (.subK (.var 2) 2) (.tup (.cons (.str 49) (.cons (.int 4) (.cons (.subK (.var 3) 1) .nil)))))) (.ret (.tup (.cons (.str 28) (.cons (.subK (.var 2) 1) (.cons (.ife (.tval (.var 4)) .none (.str 50)) .nil))))))) .done (.ret (.var 2))))))
@[reducible] noncomputable def ir_law_shape : IS := (.set 5 (.list .nil) (.set 6 (.list .nil) (.set 7 (.list .nil) (.set 8 (.list .nil) (.set 9 (.list .nil) (.for1 .range 10 (.cons (.bi .len (.cons (.var 0) .nil)) .nil) (.set 11 (.sub (.var 0) (.var 10)) (.iff (.cmp .In (.subK (.var 11) 0) (.tup (.cons (.str 47) (.cons (.str 51) .nil)))) (.expr (.app (.var 6) (.cons (.subK (.var 11) 1) .nil)) .done) .done (.iff (.cmp .In (.subK (.var 11) 0) (.tup (.cons (.str 28) (.cons (.str 29) (.cons (.str 47) (.cons (.str 30) (.cons (.str 31) (.cons (.str 48) (.cons (.str 32) (.cons (.str 33) (.cons (.str 9) (.cons (.str 10) .nil)))))))))))) (.expr (.app (.var 5) (.cons (.call .law_seen (.cons (.var 0) (.cons (.var 10) .nil))) .nil)) .done) (.iff (.cmp .Eq (.subK (.var 11) 0) (.str 21)) (.expr (.app (.var 7) (.cons (.tup (.cons (.subK (.var 11) 1) (.cons (.subK (.sub (.var 0) (.bin .Sub (.subK (.var 11) 2) (.int 1))) 0) .nil))) .nil)) .done) (.iff (.cmp .Eq (.subK (.var 11) 0) (.str 22)) (.expr (.app (.var 8) (.cons (.subK (.var 11) 1) .nil)) .done) (.iff (.cmp .Eq (.subK (.var 11) 0) (.str 18)) (.expr (.app (.var 9) (.cons (.bi .len (.cons (.subK (.var 11) 1) .nil)) .nil)) (.iff (.tor (.cmp .NotEq (.sub (.var 0) (.bin .Add (.var 10) (.int 1))) (.tup (.cons (.str 52) .nil))) (.tor (.cmp .NotEq (.bi .list (.cons (.subK (.var 11) 1) .nil)) (.bi .sorted (.cons (.subK (.var 11) 1) .nil))) (.bool false))) (.ret (.bool false)) .done (.for1 .plain 12 (.lo (.subK (.var 11) 1) 1) (.iff (.cmp .NotEq (.sub (.var 0) (.bin .Sub (.var 12) (.int 1))) (.tup (.cons (.str 15) .nil))) (.ret (.bool false)) .done .done) .done))) .done .done) .done) .done) .done))) (.iff (.tor (.cmp .NotEq (.var 5) (.var 4)) (.tor (.cmp .NotEq (.bi .sorted (.cons (.var 6) .nil)) (.listR (.cons (.var 1) (.cons (.var 2) .nil)))) (.bool false))) (.ret (.bool false)) .done (.ret (.and2 (.cmp .Eq (.var 7) (.subK (.var 3) 0)) (.and2 (.cmp .Eq (.var 9) (.subK (.var 3) 1)) (.cmp .Eq (.bi .sorted (.cons (.var 8) .nil)) (.bi .sorted (.cons (.lc .plain [none, none] 1 (.var 7) (.bool true) (.subK (.var 1) 0)) .nil)))))))))))))
@[reducible] noncomputable def fnIR : Fn → IS
  | .children => ir_children
  | .subexpressions => ir_subexpressions
  | .expr_reads => ir_expr_reads
  | .mkInit => ir_mkInit
  | .emit => ir_emit
  | .here => ir_here
  | .new_slot => ir_new_slot
  | .aim => ir_aim
  | .control => ir_control
  | .assignment => ir_assignment
  | .nonblocking => ir_nonblocking
  | .branch => ir_branch
  | .selection => ir_selection
  | .loop => ir_loop
  | .repetition => ir_repetition
  | .scoped => ir_scoped
  | .close => ir_close
  | .block => ir_block
  | .parallel => ir_parallel
  | .waiting => ir_waiting
  | .looping => ir_looping
  | .make => ir_make
  | .compile_process => ir_compile_process
  | .compile_routine => ir_compile_routine
  | .row_targets => ir_row_targets
  | .falls_through => ir_falls_through
  | .scopes_behind => ir_scopes_behind
  | .target_faults => ir_target_faults
  | .scope_faults => ir_scope_faults
  | .thInit => ir_thInit
  | .law_bag => ir_law_bag
  | .law_pull => ir_law_pull
  | .law_new => ir_law_new
  | .law_scope => ir_law_scope
  | .law_plain => ir_law_plain
  | .law_parts => ir_law_parts
  | .law_tree => ir_law_tree
  | .law_acts => ir_law_acts
  | .law_seen => ir_law_seen
  | .law_shape => ir_law_shape
@[reducible] noncomputable def fnPl : Fn → List (Option Nat)
  | .children => [some 0, none]
  | .subexpressions => [some 0, none, none, none, none, none, none]
  | .expr_reads => [some 0, none, none, none, none]
  | .mkInit => [some 0, some 1]
  | .emit => [some 0, some 1, none]
  | .here => [some 0, none]
  | .new_slot => [some 0, none]
  | .aim => [some 0, some 1, none]
  | .control => [some 0, some 1]
  | .assignment => [some 0, some 1, none]
  | .nonblocking => [some 0, some 1, none]
  | .branch => [some 0, some 1, none, none]
  | .selection => [some 0, some 1, none, none, none, none, none, none, none, none, none, none]
  | .loop => [some 0, some 1, some 2, some 3, none, none]
  | .repetition => [some 0, some 1, none, none]
  | .scoped => [some 0, some 1]
  | .close => [some 0, some 1, some 2]
  | .block => [some 0, some 1, none, none]
  | .parallel => [some 0, some 1, none, none, none, none, none, none]
  | .waiting => [some 0, some 1, none, none]
  | .looping => [some 0, some 1, none]
  | .make => [some 0, some 1, none]
  | .compile_process => [some 0, none, none]
  | .compile_routine => [some 0, some 1, none, none, none, none]
  | .row_targets => [some 0, none]
  | .falls_through => [some 0]
  | .scopes_behind => [some 0, some 1, none]
  | .target_faults => [some 0, none, none, none, none, none, none, none]
  | .scope_faults => [some 0, none, none, none, none, none, none, none, none, none, none, none, none, none]
  | .thInit => [some 0, some 1, some 2, some 3, some 4, some 5]
  | .law_bag => [some 0, none, none, none, none]
  | .law_pull => [some 0, some 1, none, none, none, none]
  | .law_new => [some 0]
  | .law_scope => [some 0, some 1, none]
  | .law_plain => [some 0, some 1, none, none, none]
  | .law_parts => [some 0, some 1, some 2, some 3, none, none, none]
  | .law_tree => [some 0, some 1, some 2, none, none, none, none, none, none, none, none, none, none, none, none]
  | .law_acts => [some 0, some 1, some 2, none, none, none, none, none]
  | .law_seen => [some 0, some 1, none, none, none]
  | .law_shape => [some 0, some 1, some 2, some 3, some 4, none, none, none, none, none, none, none, none, none, none, none, none, none]
@[reducible] noncomputable def fnAr : Fn → Nat
  | .children => 1
  | .subexpressions => 1
  | .expr_reads => 1
  | .mkInit => 2
  | .emit => 2
  | .here => 1
  | .new_slot => 1
  | .aim => 2
  | .control => 2
  | .assignment => 2
  | .nonblocking => 2
  | .branch => 2
  | .selection => 2
  | .loop => 4
  | .repetition => 2
  | .scoped => 2
  | .close => 3
  | .block => 2
  | .parallel => 2
  | .waiting => 2
  | .looping => 2
  | .make => 2
  | .compile_process => 1
  | .compile_routine => 2
  | .row_targets => 1
  | .falls_through => 1
  | .scopes_behind => 2
  | .target_faults => 1
  | .scope_faults => 1
  | .thInit => 6
  | .law_bag => 1
  | .law_pull => 2
  | .law_new => 1
  | .law_scope => 2
  | .law_plain => 2
  | .law_parts => 4
  | .law_tree => 3
  | .law_acts => 3
  | .law_seen => 2
  | .law_shape => 5
@[reducible] noncomputable def ir_law_tail : IS := (.expr (.call .law_acts (.cons (.var 5) (.cons (.var 6) (.cons (.var 7) .nil)))) (.iff (.tor (.cmp .NotEq (.call .target_faults (.cons (.var 10) .nil)) (.list .nil)) (.tor (.cmp .NotEq (.last (.var 10)) (.var 12)) (.bool false))) (.ret (.bool false)) .done (.ret (.and2 (.cmp .Eq (.call .scope_faults (.cons (.var 10) .nil)) (.list .nil)) (.call .law_shape (.cons (.var 10) (.cons (.var 9) (.cons (.var 11) (.cons (.var 7) (.cons (.var 6) .nil))))))))))
@[reducible] noncomputable def ir_law : IS := (.set 1 (.call .law_bag (.cons (.var 0) .nil)) (.set 2 (.call .law_pull (.cons (.var 1) (.cons (.int 4) .nil))) (.set 3 (.list (.cons (.int 10) (.cons (.int 8) (.cons (.int 2) .nil)))) (.set 4 (.tup (.cons (.str 18) (.cons (.tup (.cons (.call .law_tree (.cons (.var 1) (.cons (.int 3) (.cons (.var 3) .nil)))) (.cons (.call .law_tree (.cons (.var 1) (.cons (.int 3) (.cons (.var 3) .nil)))) .nil))) (.cons (.int 1) .nil)))) (.set 5 (.tup (.cons (.str 43) (.cons (.tup (.cons (.var 4) (.cons (.call .law_tree (.cons (.var 1) (.cons (.int 3) (.cons (.var 3) .nil)))) .nil))) (.cons (.int 0) .nil)))) (.set 6 (.list .nil) (.set 7 (.list (.cons (.list .nil) (.cons (.list .nil) .nil))) (.set 8 (.new .thread (.cons (.int 0) (.cons (.list .nil) (.cons (.int 0) (.cons (.list .nil) (.cons (.str 53) .nil)))))) (.setA (.var 8) 55 (.var 5) (.set 9 (.int 0) (.iff (.cmp .Lt (.var 2) (.int 2)) (.setA (.var 8) 69 (.sub (.tup (.cons (.str 54) (.cons (.str 13) .nil))) (.var 2)) (.set2 10 11 (.call .compile_process (.cons (.var 8) .nil)) (.set 12 (.sub (.tup (.cons (.tup (.cons (.str 15) .nil)) (.cons (.tup (.cons (.str 14) (.cons (.int 0) .nil))) .nil))) (.var 2)) .done))) (.set 9 (.call .law_pull (.cons (.var 1) (.cons (.int 4) .nil))) (.setA (.var 8) 56 (.bin .Mult (.list (.cons (.int 2) .nil)) (.var 9)) (.set 13 (.neg (.int 1)) (.iff (.cmp .Eq (.var 2) (.int 3)) (.set 13 (.int 2) (.expr (.app (.subK (.var 7) 0) (.cons (.tup (.cons (.int 2) (.cons (.str 22) .nil))) .nil)) .done)) .done (.set2 10 11 (.call .compile_routine (.cons (.var 8) (.cons (.var 13) .nil))) (.set 12 (.tup (.cons (.str 16) .nil)) .done)))))) ir_law_tail)))))))))))
@[reducible] noncomputable def lawPl : List (Option Nat) := [some 0, none, none, none, none, none, none, none, none, none, none, none, none, none, none, none, none, none, none, none, none, none, none, none]
noncomputable def varsIn (pl : List (Option Nat)) (args : List AV) : Vars := pl.map fun o => o.bind fun j => args[j]?
noncomputable def runBody (W : Nat) (ns : List Int) (C : Handler) (c : IS) (pl : List (Option Nat)) (ar : Nat) (args : List AV) (σ : Store) : Option (AV × Store) :=
  if args.length = ar then (match runB W ns C c (varsIn pl args) σ with
    | some (.ret v, _, σ') => some (v, σ')
    | some (.next, _, σ') => some (.none, σ')
    | _ => none) else none
noncomputable def run (W : Nat) (ns : List Int) : Nat → Handler
  | 0, _, _, _ => none
  | n + 1, f, args, σ => runBody W ns (run W ns n) (fnIR f) (fnPl f) (fnAr f) args σ
noncomputable def runLaw (W : Nat) (ns : List Int) (n : Nat) : Option (AV × Store) := runBody W ns (run W ns n) ir_law lawPl 1 [.script] []
noncomputable def plIdx (x : Str) : List Str → Option Nat
  | [] => none
  | p :: r => if seq p x then some 0 else (plIdx x r).map (· + 1)
noncomputable def plOf (ps : List Str) (names : List (Str × NameKind)) : List (Option Nat) := names.map fun p => plIdx p.1 ps
theorem argOf_pl {x : Str} : ∀ {ps : List Str} {as : List AV}, as.length = ps.length → argOf x ps as = (plIdx x ps).bind fun j => as[j]?
  | [], [], _ => rfl
  | p :: r, a :: s, h => by
    show (if seq p x then some a else argOf x r s) = (if seq p x then some 0 else (plIdx x r).map (· + 1)).bind fun j => (a :: s)[j]?
    split
    · rfl
    · rw [argOf_pl (Nat.succ.inj h)]
      cases plIdx x r <;> rfl
theorem varsIn_eq {ps : List Str} {as : List AV} (hl : as.length = ps.length) : ∀ {names : List (Str × NameKind)}, varsIn (plOf ps names) as = initVars names ps as
  | [] => rfl
  | (x, kd) :: r => by
    show ((plIdx x ps).bind fun j => as[j]?) :: varsIn (plOf ps r) as = argOf x ps as :: initVars r ps as
    rw [argOf_pl hl, varsIn_eq hl]
end Mine
end
-- S1
section
namespace Mine
open PySem PySem.W PySem.Calls PyProof.Rows
structure Base where
  prog : Program
  w : World
  K : Frag
  hb : Heap
  addr : Fn → Addr
  clsA : Cls → Addr
  sa : Addr
  ns : List Int
noncomputable abbrev Links := List (Addr × Addr)
mutual
inductive VR (B : Base) (h : Heap) (φ : Links) : Value → AV → Prop
  | none : VR B h φ .none .none
  | bool (b : Bool) : VR B h φ (.bool b) (.bool b)
  | int (i : Int) (t : Tok) : VR B h φ (.int i t) (.int i)
  | str {n : Nat} {x : Str} {t : Tok} : tab[n]? = some x → VR B h φ (.str x t) (.str n)
  | tup {a : Addr} {vs : List Value} {k : Nat} {l : List AV} : IsT h a vs.toArray k → VRs B h φ vs l → l.length ≤ lim → VR B h φ (.ref a) (.tup l)
  | cell {i : Nat} {p : Addr × Addr} : φ[i]? = some p → VR B h φ (.ref p.1) (.cell i)
  | script : VR B h φ (.ref B.sa) .script
inductive VRs (B : Base) (h : Heap) (φ : Links) : List Value → List AV → Prop
  | nil : VRs B h φ [] []
  | cons {v : Value} {a : AV} {vs : List Value} {l : List AV} : VR B h φ v a → VRs B h φ vs l → VRs B h φ (v :: vs) (a :: l)
end
inductive ARs (B : Base) (h : Heap) (φ : Links) : List DictEntry → List (Nat × AV) → Prop
  | nil : ARs B h φ [] []
  | cons {e : DictEntry} {n : Nat} {x : Str} {t : Tok} {a : AV} {es : List DictEntry} {l : List (Nat × AV)} : tab[n]? = some x → e.key = .str x t → VR B h φ e.val a → ARs B h φ es l → ARs B h φ (e :: es) ((n, a) :: l)
inductive KRs (B : Base) (h : Heap) (φ : Links) : List (Int × Value) → List (Int × AV) → Prop
  | nil : KRs B h φ [] []
  | cons {k : Int} {v : Value} {a : AV} {es : List (Int × Value)} {l : List (Int × AV)} : VR B h φ v a → KRs B h φ es l → KRs B h φ ((k, v) :: es) ((k, a) :: l)
theorem no {α : Type} {x : α} {p : Prop} (e : none = some x) : p := nomatch e
theorem ifS {α : Type} {p : Prop} [Decidable p] {o : Option α} {x : α} (e : (if p then o else none) = some x) : p ∧ o = some x := by
  by_cases h : p
  · rw [if_pos h] at e; exact ⟨h, e⟩
  · rw [if_neg h] at e; exact no e
theorem ifZ {α : Type} {p : Prop} [Decidable p] {o : Option α} {x : α} (e : (if p then none else o) = some x) : ¬ p ∧ o = some x := by
  by_cases h : p
  · rw [if_pos h] at e; exact no e
  · rw [if_neg h] at e; exact ⟨h, e⟩
theorem bindS {α β : Type} {o : Option α} {f : α → Option β} {x : β} (e : o.bind f = some x) : ∃ a, o = some a ∧ f a = some x := Option.bind_eq_some_iff.mp e
theorem mapS {α β : Type} {o : Option α} {f : α → β} {x : β} (e : o.map f = some x) : ∃ a, o = some a ∧ f a = x := Option.map_eq_some_iff.mp e
inductive TupAt (B : Base) (h : Heap) (φ : Links) (v : Value) (l : List AV) : Prop
  | mk (a : Addr) (vs : List Value) (k : Nat) (e : v = .ref a) (t : IsT h a (List.toArray vs) k) (r : VRs B h φ vs l) (s : l.length ≤ lim)
inductive ListAt (B : Base) (h : Heap) (φ : Links) (v : Value) (i : Nat) (l : List AV) : Prop
  | mk (a : Addr) (vs : List Value) (n : Nat) (e : v = .ref a) (p : φ[i]? = some (a, a)) (g : h.get? a = some { cls := .type "list", data := .seq (List.toArray vs) n }) (r : VRs B h φ vs l) (s : l.length ≤ lim)
inductive DictAt (B : Base) (h : Heap) (φ : Links) (v : Value) (i : Nat) (l : List (Int × AV)) : Prop
  | mk (a : Addr) (kvs : List (Int × Value)) (e : v = .ref a) (p : φ[i]? = some (a, a)) (g : h.DictOf (intKind B.prog B.w) a kvs) (r : KRs B h φ kvs l) (s : l.length ≤ lim)
inductive ObjAt (B : Base) (h : Heap) (φ : Links) (v : Value) (i : Nat) (c : Cls) (l : List (Nat × AV)) : Prop
  | mk (p : Addr × Addr) (es : List DictEntry) (n : Nat) (e : v = .ref p.1) (q : φ[i]? = some p) (g : h.get? p.1 = some (instObj (B.clsA c) p.2)) (d : h.get? p.2 = some (dictOf es n)) (r : ARs B h φ es l) (s : l.length ≤ 100)
noncomputable def VI (B : Base) (h : Heap) (φ : Links) (v : Value) : AV → Prop
  | .none => v = .none
  | .bool b => v = .bool b
  | .int i => ∃ t, v = .int i t
  | .str n => ∃ x t, tab[n]? = some x ∧ v = .str x t
  | .tup l => TupAt B h φ v l
  | .cell i => ∃ p, φ[i]? = some p ∧ v = .ref p.1
  | .script => v = .ref B.sa
theorem VR.inv {B : Base} {h : Heap} {φ : Links} {v : Value} {a : AV} (x : VR B h φ v a) : VI B h φ v a := match x with
  | .none => rfl
  | .bool _ => rfl
  | .int _ t => ⟨t, rfl⟩
  | .str e => ⟨_, _, e, rfl⟩
  | .tup a b c => ⟨_, _, _, rfl, a, b, c⟩
  | .cell e => ⟨_, e, rfl⟩
  | .script => rfl
theorem VRs.inv {B : Base} {h : Heap} {φ : Links} {vs : List Value} {a : AV} {l : List AV} (x : VRs B h φ vs (a :: l)) : ∃ v r, vs = v :: r ∧ VR B h φ v a ∧ VRs B h φ r l := match x with
  | .cons a b => ⟨_, _, rfl, a, b⟩
theorem VRs.inv0 {B : Base} {h : Heap} {φ : Links} {vs : List Value} (x : VRs B h φ vs []) : vs = [] := match x with
  | .nil => rfl
noncomputable def CellR (B : Base) (h : Heap) (φ : Links) (p : Addr × Addr) : Cell → Prop
  | .list l => p.1 = p.2 ∧ ∃ vs, h.PlainList p.2 (List.toArray vs) ∧ VRs B h φ vs l ∧ l.length ≤ lim
  | .dict l => p.1 = p.2 ∧ ∃ kvs, h.DictOf (intKind B.prog B.w) p.2 kvs ∧ KRs B h φ kvs l ∧ l.length ≤ lim
  | .obj c l => h.get? p.1 = some (instObj (B.clsA c) p.2) ∧ ∃ es n, h.get? p.2 = some (dictOf es n) ∧ ARs B h φ es l ∧ l.length ≤ 100
noncomputable def Keep (φ : Links) (h h' : Heap) : Prop := ∀ a o, h.get? a = some o → (∀ p ∈ φ, a ≠ p.2) → h'.get? a = some o
structure Step (φ φ' : Links) (h h' : Heap) : Prop where
  ext : ∃ ψ, φ' = φ ++ ψ ∧ ∀ p ∈ ψ, h.get? p.2 = none
  keep : Keep φ h h'
structure SR (B : Base) (h : Heap) (φ : Links) (σ : Store) : Prop where
  base : ∀ b o, B.hb.get? b = some o → h.get? b = some o
  fresh : ∀ p ∈ φ, B.hb.get? p.2 = none
  nodup : (φ.map (·.2)).Nodup
  len : φ.length = σ.length
  cells : ∀ (i : Nat) (p : Addr × Addr) (c : Cell), φ[i]? = some p → σ[i]? = some c → CellR B h φ p c
noncomputable def Obj.mutable (o : Obj) : Prop := (o.cls = .type "list" ∧ ∃ xs n, o.data = .seq xs n) ∨ ∃ es n, o.data = .dict es n
section
variable {B : Base} {h h' h'' : Heap} {φ φ' φ'' : Links} {σ σ' : Store}
theorem CellR.mut {p : Addr × Addr} {c : Cell} (x : CellR B h φ p c) : ∃ o, h.get? p.2 = some o ∧ Obj.mutable o := by
  cases c with
  | list l => obtain ⟨zz, vs, ⟨n, e⟩, zz⟩ := x; exact ⟨_, e, .inl ⟨rfl, _, _, rfl⟩⟩
  | dict l => obtain ⟨zz, kvs, ⟨o, es, ep, e, hx, hd, zz⟩, zz⟩ := x; exact ⟨_, e, .inr ⟨_, _, hd⟩⟩
  | obj c l => obtain ⟨zz, es, n, e, zz⟩ := x; exact ⟨_, e, .inr ⟨_, _, rfl⟩⟩
theorem SR.mut (S : SR B h φ σ) {p : Addr × Addr} (hp : p ∈ φ) : ∃ o, h.get? p.2 = some o ∧ Obj.mutable o := by
  obtain ⟨i, hi, rfl⟩ := List.mem_iff_getElem.mp hp
  have hi' : i < σ.length := S.len ▸ hi
  exact (S.cells i _ _ (List.getElem?_eq_getElem hi) (List.getElem?_eq_getElem hi')).mut
theorem SR.off (S : SR B h φ σ) {a : Addr} {o : Obj} (ha : h.get? a = some o) (hm : ¬ Obj.mutable o) : ∀ p ∈ φ, a ≠ p.2 := fun p hp e => by
  obtain ⟨o', h1, h2⟩ := S.mut hp
  rw [← e, ha] at h1
  cases h1
  exact hm h2
theorem not_mutable_tup {vs : Array Value} {k : Nat} : ¬ Obj.mutable { cls := .type "tuple", dict := none, data := .seq vs k, slots := #[] } := by
  rintro (⟨e, _⟩ | ⟨_, _, e⟩) <;> simp at e
theorem not_mutable_inst {C d : Addr} : ¬ Obj.mutable (instObj C d) := by
  rintro (⟨e, _⟩ | ⟨_, _, e⟩) <;> simp at e
theorem not_mutable_cell {o : Obj} {v : Option Value} (hd : o.data = .cell v) : ¬ Obj.mutable o := by
  rintro (⟨_, _, _, e⟩ | ⟨_, _, e⟩) <;> rw [hd] at e <;> cases e
theorem Step.refl (φ : Links) (h : Heap) : Step φ φ h h := ⟨⟨[], by simp, by simp⟩, fun zz zz e zz => e⟩
theorem Step.trans (x : Step φ φ' h h') (S' : SR B h' φ' σ') (y : Step φ' φ'' h' h'') : Step φ φ'' h h'' := by
  obtain ⟨⟨ψ, rfl, h1⟩, k1⟩ := x
  obtain ⟨⟨χ, rfl, h2⟩, k2⟩ := y
  have new : ∀ p ∈ χ, h.get? p.2 = none := fun p hp => by
    cases hq : h.get? p.2 with
    | none => rfl
    | some o =>
      by_cases hm : ∃ q ∈ φ, p.2 = q.2
      · obtain ⟨q, hq', e⟩ := hm
        obtain ⟨o', ho', zz⟩ := S'.mut (List.mem_append_left ψ hq')
        rw [← e, h2 p hp] at ho'; cases ho'
      · have := k1 _ _ hq (fun q hq e => hm ⟨q, hq, e⟩)
        rw [h2 p hp] at this; cases this
  refine ⟨⟨ψ ++ χ, by simp, fun p hp => (List.mem_append.mp hp).elim (h1 p) (new p)⟩, fun a o e n => ?_⟩
  refine k2 a o (k1 a o e n) fun p hp => ?_
  rcases List.mem_append.mp hp with hp | hp
  · exact n p hp
  · intro q; rw [q, h1 p hp] at e; cases e
theorem Step.more (x : Step φ φ' h h') {i : Nat} {p : Addr × Addr} (e : φ[i]? = some p) : φ'[i]? = some p := by
  obtain ⟨⟨ψ, rfl, zz⟩, zz⟩ := x
  obtain ⟨hi, zz⟩ := List.getElem?_eq_some_iff.mp e
  rw [List.getElem?_append_left hi]; exact e
theorem VRs.ind {P : List Value → List AV → Prop} (n : P [] []) (c : ∀ {v a vs l}, VR B h φ v a → VRs B h φ vs l → P vs l → P (v :: vs) (a :: l)) {vs : List Value} {l : List AV} (x : VRs B h φ vs l) : P vs l :=
  VRs.rec (motive_1 := fun zz zz zz => True) (motive_2 := fun vs l zz => P vs l) trivial (fun zz => trivial) (fun zz zz => trivial) (fun zz => trivial) (fun zz zz zz zz => trivial) (fun zz => trivial) trivial n (fun a b zz r => c a b r) x
theorem VR.move (t : ∀ a vs k, IsT h a vs k → IsT h' a vs k) (m : ∀ (i : Nat) p, φ[i]? = some p → φ'[i]? = some p) {v : Value} {a : AV} (x : VR B h φ v a) : VR B h' φ' v a :=
  VR.rec (motive_1 := fun v a zz => VR B h' φ' v a) (motive_2 := fun vs l zz => VRs B h' φ' vs l) .none .bool .int .str (fun ht zz hl r => .tup (t _ _ _ ht) r hl) (fun e => .cell (m _ _ e)) .script .nil (fun zz zz a r => .cons a r) x
theorem VRs.move (t : ∀ a vs k, IsT h a vs k → IsT h' a vs k) (m : ∀ (i : Nat) p, φ[i]? = some p → φ'[i]? = some p) {vs : List Value} {l : List AV} (x : VRs B h φ vs l) : VRs B h' φ' vs l :=
  x.ind .nil fun a zz r => .cons (a.move t m) r
theorem ARs.move (t : ∀ a vs k, IsT h a vs k → IsT h' a vs k) (m : ∀ (i : Nat) p, φ[i]? = some p → φ'[i]? = some p) {es : List DictEntry} {l : List (Nat × AV)} (x : ARs B h φ es l) : ARs B h' φ' es l :=
  ARs.rec (motive := fun es l zz => ARs B h' φ' es l) .nil (fun a b c zz r => .cons a b (c.move t m) r) x
theorem KRs.move (t : ∀ a vs k, IsT h a vs k → IsT h' a vs k) (m : ∀ (i : Nat) p, φ[i]? = some p → φ'[i]? = some p) {es : List (Int × Value)} {l : List (Int × AV)} (x : KRs B h φ es l) : KRs B h' φ' es l :=
  KRs.rec (motive := fun es l zz => KRs B h' φ' es l) .nil (fun c zz r => .cons (c.move t m) r) x
theorem Step.tups (S : SR B h φ σ) (x : Step φ φ' h h') : ∀ a vs k, IsT h a vs k → IsT h' a vs k := fun zz zz zz ht => x.keep _ _ ht (S.off ht not_mutable_tup)
theorem VR.step (S : SR B h φ σ) (x : Step φ φ' h h') {v : Value} {a : AV} (r : VR B h φ v a) : VR B h' φ' v a := r.move (x.tups S) fun zz zz => x.more
theorem VRs.step (S : SR B h φ σ) (x : Step φ φ' h h') {vs : List Value} {l : List AV} (r : VRs B h φ vs l) : VRs B h' φ' vs l := r.move (x.tups S) fun zz zz => x.more
theorem ARs.step (S : SR B h φ σ) (x : Step φ φ' h h') {es : List DictEntry} {l : List (Nat × AV)} (r : ARs B h φ es l) : ARs B h' φ' es l := r.move (x.tups S) fun zz zz => x.more
theorem KRs.step (S : SR B h φ σ) (x : Step φ φ' h h') {es : List (Int × Value)} {l : List (Int × AV)} (r : KRs B h φ es l) : KRs B h' φ' es l := r.move (x.tups S) fun zz zz => x.more
theorem VRs.length {vs : List Value} {l : List AV} (x : VRs B h φ vs l) : vs.length = l.length := VRs.ind (P := fun vs l => vs.length = l.length) rfl (fun zz zz r => congrArg (· + 1) r) x
theorem ARs.length {vs : List DictEntry} {l : List (Nat × AV)} (x : ARs B h φ vs l) : vs.length = l.length := ARs.rec (motive := fun vs l zz => vs.length = l.length) rfl (fun zz zz zz zz r => congrArg (· + 1) r) x
theorem KRs.length {vs : List (Int × Value)} {l : List (Int × AV)} (x : KRs B h φ vs l) : vs.length = l.length := KRs.rec (motive := fun vs l zz => vs.length = l.length) rfl (fun zz zz r => congrArg (· + 1) r) x
theorem VRs.get {vs : List Value} {l : List AV} (x : VRs B h φ vs l) : ∀ {i : Nat} {a : AV}, l[i]? = some a → ∃ v, vs[i]? = some v ∧ VR B h φ v a :=
  VRs.ind (P := fun vs l => ∀ {i : Nat} {a : AV}, l[i]? = some a → ∃ v, vs[i]? = some v ∧ VR B h φ v a) (fun e => no e) (fun {v b vs l} x _ ih i a e => by
    cases i with
    | zero => cases e; exact ⟨v, rfl, x⟩
    | succ i => exact ih (i := i) e) x
theorem VRs.append {vs vs' : List Value} {l l' : List AV} (x : VRs B h φ vs l) (y : VRs B h φ vs' l') : VRs B h φ (vs ++ vs') (l ++ l') := VRs.ind (P := fun vs l => VRs B h φ (vs ++ vs') (l ++ l')) y (fun a zz r => .cons a r) x
theorem VRs.set {vs : List Value} {l : List AV} {v : Value} {a : AV} (x : VRs B h φ vs l) (y : VR B h φ v a) : ∀ i : Nat, VRs B h φ (vs.set i v) (l.set i a) :=
  VRs.ind (P := fun vs l => ∀ i : Nat, VRs B h φ (vs.set i v) (l.set i a)) (fun zz => .nil) (fun x r ih i => Nat.casesOn i (.cons y r) fun i => .cons x (ih i)) x
theorem VRs.take {vs : List Value} {l : List AV} (x : VRs B h φ vs l) : ∀ i : Nat, VRs B h φ (vs.take i) (l.take i) :=
  VRs.ind (P := fun vs l => ∀ i : Nat, VRs B h φ (vs.take i) (l.take i)) (fun i => Nat.casesOn i .nil fun zz => .nil) (fun x zz ih i => Nat.casesOn i .nil fun i => .cons x (ih i)) x
theorem VRs.drop {vs : List Value} {l : List AV} (x : VRs B h φ vs l) : ∀ i : Nat, VRs B h φ (vs.drop i) (l.drop i) :=
  VRs.ind (P := fun vs l => ∀ i : Nat, VRs B h φ (vs.drop i) (l.drop i)) (fun i => Nat.casesOn i .nil fun zz => .nil) (fun x r ih i => Nat.casesOn i (.cons x r) fun i => ih i) x
theorem VRs.eraseIdx {vs : List Value} {l : List AV} (x : VRs B h φ vs l) : ∀ i : Nat, VRs B h φ (vs.eraseIdx i) (l.eraseIdx i) :=
  VRs.ind (P := fun vs l => ∀ i : Nat, VRs B h φ (vs.eraseIdx i) (l.eraseIdx i)) (fun zz => .nil) (fun x r ih i => Nat.casesOn i r fun i => .cons x (ih i)) x
theorem VRs.reverse {vs : List Value} {l : List AV} (x : VRs B h φ vs l) : VRs B h φ vs.reverse l.reverse := by
  exact VRs.ind (P := fun vs l => VRs B h φ vs.reverse l.reverse) .nil (fun a zz r => by rw [List.reverse_cons, List.reverse_cons]; exact r.append (.cons a .nil)) x
theorem VRs.dropLast {vs : List Value} {l : List AV} (x : VRs B h φ vs l) : VRs B h φ vs.dropLast l.dropLast := by
  rw [List.dropLast_eq_take, List.dropLast_eq_take, x.length]; exact x.take _
theorem Step.of_grow (k : ∀ a o, h.get? a = some o → h'.get? a = some o) : Step φ φ h h' := ⟨⟨[], by simp, by simp⟩, fun a o e zz => k a o e⟩
theorem CellR.move {p : Addr × Addr} {c : Cell} (S : SR B h φ σ) (x : Step φ φ' h h') (r : CellR B h φ p c) (e : ∀ o, h.get? p.2 = some o → h'.get? p.2 = some o) : CellR B h' φ' p c := by
  cases c with
  | list l =>
    obtain ⟨a, vs, ⟨n, b⟩, c, d⟩ := r
    exact ⟨a, vs, ⟨n, e _ b⟩, c.step S x, d⟩
  | dict l =>
    obtain ⟨a, kvs, ⟨o, es, ep, b, r⟩, c, d⟩ := r
    exact ⟨a, kvs, ⟨o, es, ep, e _ b, r⟩, c.step S x, d⟩
  | obj c l =>
    obtain ⟨a, es, n, b, c, d⟩ := r
    exact ⟨x.keep _ _ a (S.off a not_mutable_inst), es, n, e _ b, c.step S x, d⟩
theorem SR.grow (S : SR B h φ σ) (k : ∀ a o, h.get? a = some o → h'.get? a = some o) : SR B h' φ σ :=
  ⟨fun b o e => k b o (S.base b o e), S.fresh, S.nodup, S.len, fun i p c e1 e2 => (S.cells i p c e1 e2).move S (.of_grow k) fun o e => k _ o e⟩
theorem SR.base_none (S : SR B h φ σ) {a : Addr} (e : h.get? a = none) : B.hb.get? a = none := by
  cases q : B.hb.get? a with
  | none => rfl
  | some o => rw [S.base a o q] at e; cases e
theorem SR.push (S : SR B h φ σ) {p : Addr × Addr} {c : Cell} (hn : h.get? p.2 = none) (k : ∀ a o, h.get? a = some o → h'.get? a = some o)
    (r : Step φ (φ ++ [p]) h h' → CellR B h' (φ ++ [p]) p c) : SR B h' (φ ++ [p]) (σ ++ [c]) ∧ Step φ (φ ++ [p]) h h' := by
  have st : Step φ (φ ++ [p]) h h' := ⟨⟨[p], rfl, fun q hq => by rw [List.mem_singleton.mp hq]; exact hn⟩, fun a o e zz => k a o e⟩
  refine ⟨⟨fun b o e => k b o (S.base b o e), fun q hq => ?_, ?_, by simp [S.len], fun i q d e1 e2 => ?_⟩, st⟩
  · rcases List.mem_append.mp hq with hq | hq
    · exact S.fresh q hq
    · rw [List.mem_singleton.mp hq]; exact S.base_none hn
  · rw [List.map_append, List.nodup_append]
    refine ⟨S.nodup, by simp, fun a ha b hb e => ?_⟩
    obtain ⟨q, hq, rfl⟩ := List.mem_map.mp ha
    obtain ⟨o, ho, zz⟩ := S.mut hq
    simp at hb
    rw [e, hb, hn] at ho; cases ho
  · rcases Nat.lt_or_ge i φ.length with hi | hi
    · rw [List.getElem?_append_left hi] at e1
      rw [List.getElem?_append_left (S.len ▸ hi)] at e2
      exact (S.cells i q d e1 e2).move S st fun o e => k _ o e
    · rw [List.getElem?_append_right hi] at e1
      rw [List.getElem?_append_right (S.len ▸ hi)] at e2
      have : i - φ.length = 0 := by
        rcases Nat.eq_zero_or_pos (i - φ.length) with z | z
        · exact z
        · rw [List.getElem?_eq_none (show [p].length ≤ i - φ.length from z)] at e1; cases e1
      rw [this] at e1
      rw [← S.len, this] at e2
      simp at e1 e2
      subst e1 e2
      exact r st
theorem nodup_get {φ : Links} (nd : (φ.map (·.2)).Nodup) {i j : Nat} {p q : Addr × Addr} (e1 : φ[i]? = some p) (e2 : φ[j]? = some q) (e : p.2 = q.2) : i = j := by
  have h1 : (φ.map (·.2))[i]? = some p.2 := by simp [e1]
  have h2 : (φ.map (·.2))[j]? = some p.2 := by simp [e2, e]
  obtain ⟨a1, b1⟩ := List.getElem?_eq_some_iff.mp h1
  obtain ⟨a2, b2⟩ := List.getElem?_eq_some_iff.mp h2
  have pw := List.pairwise_iff_getElem.mp nd
  rcases Nat.lt_trichotomy i j with hl | hl | hl
  · exact absurd (b1.trans b2.symm) (pw i j a1 a2 hl)
  · exact hl
  · exact absurd (b2.trans b1.symm) (pw j i a2 a1 hl)
theorem SR.set (S : SR B h φ σ) {i : Nat} {p : Addr × Addr} {c : Cell} (e : φ[i]? = some p) (k : Heap.ExtBut p.2 h h')
    (r : Step φ φ h h' → CellR B h' φ p c) : SR B h' φ (σ.set i c) ∧ Step φ φ h h' := by
  have hp : p ∈ φ := List.mem_of_getElem? e
  have st : Step φ φ h h' := ⟨⟨[], by simp, by simp⟩, fun a o e n => k a o (n p hp) e⟩
  refine ⟨⟨fun b o x => k b o (fun q => by rw [q, S.fresh p hp] at x; cases x) (S.base b o x), S.fresh, S.nodup, by simp [S.len], fun j q d e1 e2 => ?_⟩, st⟩
  by_cases hj : i = j
  · subst hj
    rw [e] at e1; cases e1
    have hi : i < σ.length := S.len ▸ (List.getElem?_eq_some_iff.mp e).1
    rw [List.getElem?_set_self hi] at e2; cases e2
    exact r st
  · rw [List.getElem?_set_ne hj] at e2
    refine (S.cells j q d e1 e2).move S st fun o x => k _ o (fun y => hj (nodup_get S.nodup e e1 y.symm)) x
theorem SR.link (S : SR B h φ σ) {i : Nat} {c : Cell} (e : σ[i]? = some c) : ∃ p, φ[i]? = some p ∧ CellR B h φ p c := by
  have hi : i < φ.length := S.len ▸ (List.getElem?_eq_some_iff.mp e).1
  exact ⟨_, List.getElem?_eq_getElem hi, S.cells i _ _ (List.getElem?_eq_getElem hi) e⟩
theorem VR.of_cell {v : Value} {i : Nat} (x : VR B h φ v (.cell i)) : ∃ p, φ[i]? = some p ∧ v = .ref p.1 := x.inv
end
end Mine
end
-- S2
section
namespace Mine
open PySem PySem.W PySem.Calls PyProof.Rows
noncomputable def BI.name : BI → Str
  | .len => "len" | .int => "int" | .list => "list" | .tuple => "tuple" | .range => "range" | .sorted => "sorted" | .reversed => "reversed"
noncomputable def BI.value : BI → Value
  | .len => .builtin "len" | .int => .type "int" | .list => .type "list" | .tuple => .type "tuple" | .range => .type "range" | .sorted => .builtin "sorted" | .reversed => .type "reversed"
noncomputable def attrOkIn (K : Frag) (C : Addr) (x : Str) : Bool :=
  plainGet K C x && hasDictIn K C && (findIn K (.ref C) x == some none) && takerIn K C x == some none
noncomputable def clsOkIn (K : Frag) (C : Addr) (fI : Addr) : Bool :=
  plainOver K C && (findIn K (.ref C) "__setattr__" == some (some (.builtin "object.__setattr__"))) && makesIn K C && (findIn K (.ref C) "__init__" == some (some (.ref fI))) && isFn K (.ref fI) && keepIn K (.ref C)
inductive FnAt (B : Base) (i : Info) (a : Addr) : Prop
  | mk (o : Obj) (fd : FuncData) : B.hb.get? a = some o → o.data = .func fd → fd.body = .stmts i.body → fd.scope.names = i.names → fd.scope.kind = .function → fd.scope.isCoroutine = false → fd.scope.isGenerator = false →
    fd.closure = [] → fd.globals = mainGlobals → fd.builtins = builtinsNs → B.hb.CodeRec fd.code fd.qualname →
    (∀ (s : Shared) (vs : List Value), vs.length = i.params.length → (∀ b o, B.hb.get? b = some o → s.heap.get? b = some o) → BindsTo s fd ⟨vs, []⟩ (i.params.zip vs)) →
    ((∃ x ∈ i.names, x.2 = .cell) → ∀ vs : List Value, vs.length = i.params.length → bindArgs fd ⟨vs, []⟩ = pure (i.params.zip vs)) → FnAt B i a
structure DefOk (B : Base) (i : Info) (a : Addr) : Prop where
  there : FnAt B i a
  params : ∀ x ∈ i.params, i.names.lookup x = some .local ∨ i.names.lookup x = some .cell
  debug : ∀ p ∈ i.names, p.1 ≠ "__debug__"
  distinct : (i.names.map (·.1)).Nodup
structure Good (B : Base) : Prop where
  kin : B.K.In B.hb
  glob : ∃ mg mb, B.hb.Ns mainGlobals mg ∧ B.hb.Ns builtinsNs mb ∧ (∀ f ∈ fnGlobals, mg (Str.ofString f.title) = some (.ref (B.addr f))) ∧ (∀ c : Cls, mg (Str.ofString c.title) = some (.ref (B.clsA c))) ∧
    ∀ b : BI, mg b.name = none ∧ mb b.name = some b.value
  nolimit : B.hb.NoLimit
  sys : ∃ o, B.hb.get? sysModules = some o
  script : ∃ vs, B.hb.IsList B.sa (List.toArray vs) ∧ IntsAre vs B.ns
  short : B.ns.length ≤ lim
  defs : ∀ f i, info f = some i → DefOk B i (B.addr f)
  keepF : ∀ f, keepIn B.K (.ref (B.addr f)) = true
  meths : ∀ m f, findFn m fnMeths = some f → plainGet B.K (B.clsA .maker) m = true ∧ findIn B.K (.ref (B.clsA .maker)) m = some (some (.ref (B.addr f))) ∧ isFn B.K (.ref (B.addr f)) = true
  methNames : ∀ m f, findFn m fnMeths = some f → ∀ n x, isAttr n = true → tab[n]? = some x → x ≠ m
  cls : ∀ c, clsOkIn B.K (B.clsA c) (B.addr c.init) = true
  attrs : ∀ c n x, isAttr n = true → tab[n]? = some x → attrOkIn B.K (B.clsA c) x = true
theorem place_lookup {x : Str} : ∀ {sc : List (Str × NameKind)} {i : Nat}, place x sc = some i → ∃ k, sc[i]? = some (x, k) ∧ sc.lookup x = some k
  | [], i, e => by cases e
  | (y, k) :: r, i, e => by
    unfold place at e
    by_cases h : seq y x = true
    · rw [if_pos h] at e; cases e
      have := seq_iff.mp h
      subst this
      exact ⟨k, rfl, by simp [List.lookup]⟩
    · rw [if_neg h] at e
      obtain ⟨j, hj, rfl⟩ := Option.map_eq_some_iff.mp e
      obtain ⟨k', h1, h2⟩ := place_lookup hj
      refine ⟨k', by simpa using h1, ?_⟩
      have hne : (x == y) = false := by
        cases q : x == y with
        | false => rfl
        | true => exact absurd (seq_iff.mpr (beq_iff_eq.mp q).symm) h
      rw [List.lookup_cons, hne]; exact h2
theorem place_inj {x y : Str} {sc : List (Str × NameKind)} {i : Nat} (h1 : place x sc = some i) (h2 : place y sc = some i) : x = y := by
  obtain ⟨k, a, zz⟩ := place_lookup h1
  obtain ⟨k', b, zz⟩ := place_lookup h2
  rw [a] at b; cases b; rfl
theorem place_none {x : Str} : ∀ {sc : List (Str × NameKind)}, (∀ p ∈ sc, p.1 ≠ x) → place x sc = none
  | [], _ => rfl
  | (y, k) :: r, h => by
    unfold place
    rw [if_neg (fun e => h (y, k) (.head _) (seq_iff.mp e)), place_none fun p hp => h p (.tail _ hp)]; rfl
theorem kindIn_lookup {x : Str} {sc : List (Str × NameKind)} {k : NameKind} (h : kindIn x sc = some k) : sc.lookup x = some k := by
  unfold kindIn at h
  obtain ⟨i, h1, h2⟩ := Option.bind_eq_some_iff.mp h
  obtain ⟨k', a, b⟩ := place_lookup h1
  rw [a] at h2
  simp at h2
  subst h2; exact b
theorem place_some {x : Str} : ∀ {sc : List (Str × NameKind)} {k : NameKind}, sc.lookup x = some k → ∃ i, place x sc = some i
  | [], _, e => by cases e
  | (y, k) :: r, k', e => by
    unfold place
    by_cases h : seq y x = true
    · exact ⟨0, if_pos h⟩
    · rw [if_neg h]
      have hne : (x == y) = false := by
        cases q : x == y with
        | false => rfl
        | true => exact absurd (seq_iff.mpr (beq_iff_eq.mp q).symm) h
      rw [List.lookup_cons, hne] at e
      obtain ⟨i, hi⟩ := place_some e
      exact ⟨i + 1, by rw [hi]; rfl⟩
noncomputable def VarAt (B : Base) (h : Heap) (φ : Links) (env : PySem.Env) (m : Str → Option Value) (x : Str) (a : AV) : Prop :=
  (env.kindOf x = some .local ∧ ∃ v, m x = some v ∧ VR B h φ v a) ∨ (env.kindOf x = some .cell ∧ ∃ c v, env.cells.lookup x = some c ∧ h.IsCell c (some v) ∧ VR B h φ v a)
structure FR (B : Base) (env : PySem.Env) (h : Heap) (φ : Links) (ρ : Vars) : Prop where
  off : ∀ p ∈ φ, env.locals ≠ p.2
  out : B.hb.get? env.locals = none
  vars : ∃ m, h.Ns env.locals m ∧ ∀ (x : Str) (i : Nat) (a : AV), place x env.scope.names = some i → (ρ[i]?).join = some a → VarAt B h φ env m x a
structure EnvOk (env : PySem.Env) (sc : List (Str × NameKind)) : Prop where
  names : env.scope.names = sc
  kind : env.scope.kind = .function
  globals : env.globals = mainGlobals
  builtins : env.builtins = builtinsNs
  debug : place "__debug__" sc = none
noncomputable def AOk (A : Around) (n : Nat) : Prop := A.handled = none ∧ A.depth + 4 * n + 8 ≤ 990 ∧ A.units + 30 * n + 30 ≤ 9000
noncomputable def Ret (B : Base) (s : Shared) (φ : Links) (σ' : Store) (Q : Value → Shared → Prop) (a : AV) : Prop :=
  ∀ v h' tk φ', Step φ φ' s.heap h' → SR B h' φ' σ' → VR B h' φ' v a → Q v { s with heap := h', toks := tk }
noncomputable def RetB (B : Base) (s : Shared) (φ : Links) (σ' : Store) (Q : Bool → Shared → Prop) (a : Bool) : Prop :=
  ∀ h' tk φ', Step φ φ' s.heap h' → SR B h' φ' σ' → Q a { s with heap := h', toks := tk }
noncomputable def Rets (B : Base) (s : Shared) (φ : Links) (σ' : Store) (Q : List Value → Shared → Prop) (a : List AV) : Prop :=
  ∀ vs h' tk φ', Step φ φ' s.heap h' → SR B h' φ' σ' → VRs B h' φ' vs a → Q vs { s with heap := h', toks := tk }
noncomputable def EvOk (B : Base) (n : Nat) (env : PySem.Env) (r : Vars → Store → Option (AV × Store)) (t : Sem Value) : Prop :=
  ∀ (A : Around) (ρ : Vars) (σ : Store) (φ : Links) (s : Shared) (a : AV) (σ' : Store) (Q : Value → Shared → Prop) (E : Value → Shared → Prop), AOk A n → r ρ σ = some (a, σ') → SR B s.heap φ σ → FR B env s.heap φ ρ → Ret B s φ σ' Q a → wpAny (model B.prog B.w) A t Q E s
noncomputable def EvBOk (B : Base) (n : Nat) (env : PySem.Env) (r : Vars → Store → Option (Bool × Store)) (t : Sem Bool) : Prop :=
  ∀ (A : Around) (ρ : Vars) (σ : Store) (φ : Links) (s : Shared) (a : Bool) (σ' : Store) (Q : Bool → Shared → Prop) (E : Value → Shared → Prop), AOk A n → r ρ σ = some (a, σ') → SR B s.heap φ σ → FR B env s.heap φ ρ → RetB B s φ σ' Q a → wpAny (model B.prog B.w) A t Q E s
noncomputable def EvsOk (B : Base) (n : Nat) (env : PySem.Env) (r : Vars → Store → Option (List AV × Store)) (t : Sem (List Value)) : Prop :=
  ∀ (A : Around) (ρ : Vars) (σ : Store) (φ : Links) (s : Shared) (a : List AV) (σ' : Store) (Q : List Value → Shared → Prop) (E : Value → Shared → Prop), AOk A n → r ρ σ = some (a, σ') → SR B s.heap φ σ → FR B env s.heap φ ρ → Rets B s φ σ' Q a → wpAny (model B.prog B.w) A t Q E s
noncomputable def AOkH (A : Around) (n : Nat) : Prop := A.handled = none ∧ A.depth + 4 * n + 5 ≤ 990 ∧ A.units + 30 * n + 10 ≤ 9000
noncomputable def HOk (B : Base) (n : Nat) (C : Handler) : Prop :=
  ∀ (f : Fn) (args : List AV) (σ : Store) (r : AV) (σ' : Store) (A : Around) (s : Shared) (φ : Links) (vs : List Value) (R : Result → Shared → Prop), AOkH A n → C f args σ = some (r, σ') → SR B s.heap φ σ → VRs B s.heap φ vs args →
    (∀ v h' tk φ', Step φ φ' s.heap h' → SR B h' φ' σ' → VR B h' φ' v r → R (.ok (.ret v)) { s with heap := h', toks := tk }) → codeAny (model B.prog B.w) A (.call (.ref (B.addr f)) ⟨vs, []⟩) R s
section
variable {B : Base} {h h' : Heap} {φ φ' : Links} {σ σ' : Store} {env : PySem.Env} {ρ : Vars}
theorem VarAt.step (S : SR B h φ σ) (x : Step φ φ' h h') {m : Str → Option Value} {y : Str} {a : AV} : VarAt B h φ env m y a → VarAt B h' φ' env m y a
  | .inl ⟨e, v, e2, r⟩ => .inl ⟨e, v, e2, r.step S x⟩
  | .inr ⟨e, c, v, e2, ⟨o, ho, hd⟩, r⟩ => .inr ⟨e, c, v, e2, ⟨o, x.keep _ _ ho (S.off ho (not_mutable_cell hd)), hd⟩, r.step S x⟩
theorem FR.step (S : SR B h φ σ) (F : FR B env h φ ρ) (x : Step φ φ' h h') : FR B env h' φ' ρ := by
  obtain ⟨off, out, m, ⟨o, es, ep, ho, hr⟩, hv⟩ := F
  obtain ⟨ψ, rfl, hn⟩ := x.ext
  refine ⟨fun p hp e => ?_, out, m, ⟨o, es, ep, x.keep _ _ ho off, hr⟩, fun y i a e1 e2 => (hv y i a e1 e2).step S x⟩
  rcases List.mem_append.mp hp with hp | hp
  · exact off p hp e
  · have := hn p hp
    rw [← e, ho] at this; cases this
theorem Ret.here {s : Shared} {Q : Value → Shared → Prop} {a : AV} {v : Value} {tk : Nat} (r : Ret B s φ σ Q a) (S : SR B s.heap φ σ) (x : VR B s.heap φ v a) : Q v { s with toks := tk } := r v s.heap tk φ (Step.refl _ _) S x
theorem RetB.here {s : Shared} {Q : Bool → Shared → Prop} {a : Bool} {tk : Nat} (r : RetB B s φ σ Q a) (S : SR B s.heap φ σ) : Q a { s with toks := tk } := r s.heap tk φ (Step.refl _ _) S
theorem Ret.after {s : Shared} {Q : Value → Shared → Prop} {a : AV} (r : Ret B s φ σ' Q a) {h₁ : Heap} {tk₁ : Nat} {φ₁ : Links} {σ₁ : Store} (S₁ : SR B h₁ φ₁ σ₁) (x : Step φ φ₁ s.heap h₁) : Ret B { s with heap := h₁, toks := tk₁ } φ₁ σ' Q a :=
  fun v h' tk φ' y S' w => r v h' tk φ' (x.trans S₁ y) S' w
theorem RetB.after {s : Shared} {Q : Bool → Shared → Prop} {a : Bool} (r : RetB B s φ σ' Q a) {h₁ : Heap} {tk₁ : Nat} {φ₁ : Links} {σ₁ : Store} (S₁ : SR B h₁ φ₁ σ₁) (x : Step φ φ₁ s.heap h₁) : RetB B { s with heap := h₁, toks := tk₁ } φ₁ σ' Q a :=
  fun h' tk φ' y S' => r h' tk φ' (x.trans S₁ y) S'
end
end Mine
end
-- S3
section
namespace Mine
open PySem PySem.W PySem.Calls PyProof.Rows
theorem lim_line {n : Nat} (h : n ≤ lim) : n ≤ sizeLine := by
  rw [sizeLine_eq]; unfold lim at h; exact (lin [_] [.le (.v 0) (.n 1048576)] (.v 0) (.n 16777216) (.refl true) h)
theorem intBits_small {a : Int} (h : a.natAbs < 2 ^ 62) : Builtin.Int.intBits a ≤ 64 := by
  unfold Builtin.Int.intBits
  split
  · exact (lin [] [] (.n 0) (.n 64) (.refl true) )
  · rename_i h0
    have : a.natAbs ≠ 0 := by simpa using h0
    have := (Nat.log2_lt this).mpr h
    exact (lin [_] [.lt (.v 0) (.n 62)] (.a (.v 0) (.n 1)) (.n 64) (.refl true) this)
section
variable {B : Base} {φ φ' : Links} {σ σ' : Store} {A : Around} {E : Value → Shared → Prop} {s : Shared}
theorem Ret.tok {Q : Value → Shared → Prop} {a : AV} {v : Value} (r : Ret B s φ σ Q a) (S : SR B s.heap φ σ) (x : VR B s.heap φ v a) (tk : Nat) : Q v { s with toks := tk } := r v s.heap tk φ (Step.refl _ _) S x
theorem get_push_new (h : Heap) (o : Obj) (hf : o.isFreed = false) : (h.push o).get? h.objs.size = some o := Heap.get?_push_size _ hf
theorem get_size_none (h : Heap) : h.get? h.objs.size = none := by
  cases q : h.get? h.objs.size with
  | none => rfl
  | some o => exact absurd (Heap.lt_size q) (Nat.lt_irrefl _)
theorem push_keeps (h : Heap) (o : Obj) : ∀ a x, h.get? a = some x → (h.push o).get? a = some x := fun zz zz e => Heap.get?_push_of_some _ e
theorem ret_list {Q : Value → Shared → Prop} {l : List AV} {vs : List Value} {tk : Nat} (S : SR B s.heap φ σ) (r : Ret B s φ (σ ++ [.list l]) Q (.cell σ.length)) (x : VRs B s.heap φ vs l) (hl : l.length ≤ lim) :
    Q (.ref s.heap.objs.size) { s with heap := s.heap.push { cls := .type "list", data := .seq vs.toArray }, toks := tk } := by
  obtain ⟨S', st⟩ := S.push (p := (s.heap.objs.size, s.heap.objs.size)) (c := .list l) (get_size_none _) (push_keeps s.heap { cls := .type "list", data := .seq vs.toArray })
    fun st => ⟨rfl, vs, ⟨0, get_push_new _ _ rfl⟩, x.step S st, hl⟩
  refine r _ _ tk _ st S' ?_
  have : (φ ++ [(s.heap.objs.size, s.heap.objs.size)])[σ.length]? = some (s.heap.objs.size, s.heap.objs.size) := by rw [← S.len]; simp
  exact VR.cell this
theorem ret_tup {Q : Value → Shared → Prop} {l : List AV} {vs : List Value} {tk : Nat} (S : SR B s.heap φ σ) (r : Ret B s φ σ Q (.tup l)) (x : VRs B s.heap φ vs l) (hl : l.length ≤ lim) :
    Q (.ref s.heap.objs.size) { s with heap := s.heap.push { cls := .type "tuple", data := .seq vs.toArray }, toks := tk } := by
  have st : Step φ φ s.heap (s.heap.push { cls := .type "tuple", data := .seq vs.toArray }) := .of_grow (push_keeps _ _)
  exact r _ _ tk φ st (S.grow (push_keeps _ _)) (.tup (get_push_new _ _ rfl) (x.step S st) hl)
theorem listAt_inv {i : Nat} {l : List AV} (e : listAt σ i = some l) : σ[i]? = some (.list l) := by
  unfold listAt at e
  generalize σ[i]? = o at e
  cases o with
  | none => exact no e
  | some c => cases c with
    | list l' => cases e; rfl
    | _ => exact no e
theorem VR.list {v : Value} {i : Nat} {l : List AV} (S : SR B s.heap φ σ) (x : VR B s.heap φ v (.cell i)) (e : listAt σ i = some l) : ListAt B s.heap φ v i l := by
  obtain ⟨⟨p1, p2⟩, hp, rfl⟩ := x.of_cell
  obtain ⟨c1, vs, ⟨n, c2⟩, c3, c4⟩ := S.cells i _ _ hp (listAt_inv e)
  cases c1
  exact ⟨_, vs, n, rfl, hp, c2, c3, c4⟩
theorem intOk {op : Operator} {a b c : Int} {t u : Tok} {Q : Value → Shared → Prop} (e : intOp op a b = some c) (h : ∀ k tk, Q (.int c k) { s with toks := tk }) :
    wpAny (model B.prog B.w) A (binaryOp op (.int a t) (.int b u)) Q E s := by
  cases op with
  | Add => cases (show some (a + b) = some c from e); exact P.add_int (h _ _)
  | Sub => cases (show some (a - b) = some c from e); exact P.sub_int (h _ _)
  | Mult =>
    obtain ⟨hb, e⟩ := ifS e
    cases e
    exact P.mul_int (h _ _) (hb.elim (fun x => .of_left (intBits_small x)) fun x => .of_right (intBits_small x))
  | Mod =>
    obtain ⟨hb, e⟩ := ifZ e
    cases e
    exact mod_int' hb (h _ _)
  | FloorDiv =>
    obtain ⟨hb, e⟩ := ifS e
    cases e
    exact floordiv_int (Int.ne_of_gt hb.1) (h _ _) (.inl (PyProof.noPylong_small (by omega)))
  | _ => exact no e
theorem VRs.replicate {h : Heap} {v : Value} {a : AV} (x : VR B h φ v a) : ∀ k, VRs B h φ (List.replicate k v) (List.replicate k a)
  | 0 => .nil
  | k + 1 => .cons x (VRs.replicate x k)
theorem fold_rep {v : Value} : ∀ (k : Nat) (acc : Array Value), List.foldl (fun x1 x2 => x1 ++ x2) acc (List.replicate k #[v]) = acc ++ (List.replicate k v).toArray
  | 0, acc => by simp
  | k + 1, acc => by rw [List.replicate_succ, List.foldl_cons, fold_rep k]; apply Array.ext'; simp [List.replicate_succ]
theorem nz_of {h : Heap} {vs : List Value} {l : List AV} (r : VRs B h φ vs l) (n : l ≠ []) : ¬ vs.toArray.isEmpty = true := by
  cases r with
  | nil => exact absurd rfl n
  | cons _ _ => exact Bool.false_ne_true
theorem binOk {op : Operator} {a b c : AV} {u v : Value} {Q : Value → Shared → Prop} (e : binV op a b σ = some (c, σ')) (S : SR B s.heap φ σ) (hu : VR B s.heap φ u a) (hv : VR B s.heap φ v b)
    (r : Ret B s φ σ' Q c) : wpAny (model B.prog B.w) A (binaryOp op u v) Q E s := by
  cases a with
  | int x => cases b with
    | int y =>
      obtain ⟨t, rfl⟩ := hu.inv
      obtain ⟨t', rfl⟩ := hv.inv
      obtain ⟨z, hz, e⟩ := mapS e
      cases e
      exact intOk hz fun k tk => r.tok S (.int _ _) tk
    | _ => exact no e
  | tup l1 => cases b with
    | tup l2 => cases op with
      | Add =>
        obtain ⟨a1, vs1, k1, rfl, h1, r1, s1⟩ := hu.inv
        obtain ⟨a2, vs2, k2, rfl, h2, r2, s2⟩ := hv.inv
        obtain ⟨hs, e⟩ := ifS e
        cases e
        by_cases z1 : l1 = []
        · subst z1
          obtain rfl := r1.inv0
          exact concat_meets ⟨_, h1, rfl⟩ ⟨_, h2, rfl⟩ noFill_tuple_add seq_tuple_add F.slot_tuple_add F.entry_tuple_add (F.args_tuple_add_2 _ _) (AutoSeq1.tuple___add___tuple_tuple_0 a1 _ k1 a2 _ k2 rfl) ⟨h1, h2, r.tok S (.tup h2 r2 s2) s.toks⟩
        · by_cases z2 : l2 = []
          · subst z2
            obtain rfl := r2.inv0
            rw [List.append_nil] at r
            exact concat_meets ⟨_, h1, rfl⟩ ⟨_, h2, rfl⟩ noFill_tuple_add seq_tuple_add F.slot_tuple_add F.entry_tuple_add (F.args_tuple_add_2 _ _) (AutoSeq1.tuple___add___tuple_tuple_1 a1 _ k1 a2 _ k2 (nz_of r1 z1) rfl) ⟨h1, h2, r.tok S (.tup h1 r1 s1) s.toks⟩
          · refine P.add_tuple h1 h2 (nz_of r1 z1) (nz_of r2 z2) ?_ (by rw [List.size_toArray, List.size_toArray, r1.length, r2.length]; exact lim_line hs)
            rw [List.append_toArray]
            exact ret_tup (tk := s.toks) S r (r1.append r2) (by rw [List.length_append]; exact hs)
      | _ => exact no e
    | _ => exact no e
  | cell i => cases b with
    | cell j => cases op with
      | Add =>
        obtain ⟨x, hx, e⟩ := bindS e
        obtain ⟨y, hy, e⟩ := bindS e
        obtain ⟨hs, e⟩ := ifS e
        cases e
        obtain ⟨a1, vs1, n1, rfl, zz, g1, r1, zz⟩ := VR.list S hu hx
        obtain ⟨a2, vs2, n2, rfl, zz, g2, r2, zz⟩ := VR.list S hv hy
        refine P.add_list g1 g2 ?_ (by rw [List.size_toArray, List.size_toArray, r1.length, r2.length]; exact lim_line hs)
        rw [List.append_toArray]
        exact ret_list (tk := s.toks) S r (r1.append r2) (by rw [List.length_append]; exact hs)
      | _ => exact no e
    | int n => cases op with
      | Mult =>
        obtain ⟨t, rfl⟩ := hv.inv
        obtain ⟨x, hx, e⟩ := bindS e
        cases x with
        | nil => exact no e
        | cons w0 x => cases x with
          | cons _ _ => exact no e
          | nil =>
            obtain ⟨hn, e⟩ := ifS e
            cases e
            obtain ⟨a1, vs1, n1, rfl, zz, g1, r1, zz⟩ := VR.list S hu hx
            obtain ⟨v0, vs', rfl, hv0, hr⟩ := r1.inv
            obtain rfl := hr.inv0
            refine wpAny_binaryOp_repeat_ref (T := "list") (U := "int") (by decide) ⟨_, g1, rfl⟩ (fun s' => typeIs_int s' n t) noFill_list_mul F.fills_int_mul F.slot_int_rmul repeat_list F.slot_int_index.lookup
              (call_meets F.slot_int_rmul (typeIs_int s n t) F.entry_int_rmul (F.args_int_rmul_2 _ _) (int___rmul___int_list n t a1 _ n1)
              ⟨g1, rfl, ⟨_, g1, rfl⟩, call_meets F.slot_list_mul ⟨_, g1, rfl⟩ F.entry_list_mul (F.args_list_mul_2 _ _)
              (AutoListH.list___mul___list_int_3 a1 _ n1 n t (by simp [Builtin.List.listFitsIndex]; omega) (by simp; omega) (by simp [Builtin.List.listTooLong, sizeLine]; omega)) ⟨g1, ?_⟩⟩)
            have := ret_list (tk := s.toks) S r (VRs.replicate hv0 n.toNat) (by rw [List.length_replicate]; unfold lim; omega)
            show Q _ _
            simpa [fold_rep] using this
      | _ => exact no e
    | _ => exact no e
  | _ => exact no e
end
end Mine
end
-- S4
section
namespace Mine
open PySem PySem.W PySem.Calls PyProof.Rows PySem.SeqAt
noncomputable def strAt (n : Nat) : Str := (tab[n]?).getD ⟨#[]⟩
mutual
noncomputable def avP : AV → PyData
  | .none => .none
  | .int i => .int i
  | .str n => .str (strAt n)
  | .tup l => .tuple (avPs l)
  | _ => .none
noncomputable def avPs : List AV → List PyData
  | [] => []
  | a :: r => avP a :: avPs r
end
theorem tab_size : tab.length = 70 := by decide +kernel
theorem tab_ok : (tab.all fun x => PyData.strOk x) = true := by decide +kernel
theorem tab_nodup : (List.range 70).all (fun i => (List.range 70).all fun j => i == j || !seq (strAt i) (strAt j)) = true := by decide +kernel
theorem strAt_inj {i j : Nat} (hi : i < 70) (hj : j < 70) (e : strAt i = strAt j) : i = j := by
  have h1 := List.all_eq_true.mp tab_nodup i (List.mem_range.mpr hi)
  have h2 := List.all_eq_true.mp h1 j (List.mem_range.mpr hj)
  rw [e] at h2
  have : seq (strAt j) (strAt j) = true := seq_iff.mpr rfl
  rw [this] at h2
  simpa using h2
theorem strAt_of {n : Nat} {x : Str} (e : tab[n]? = some x) : strAt n = x := by unfold strAt; rw [e]; rfl
theorem strAt_some {n : Nat} (h : n < 70) : tab[n]? = some (strAt n) := by
  unfold strAt
  rw [List.getElem?_eq_getElem (by rw [tab_size]; exact h)]; rfl
theorem strAt_ok {n : Nat} (h : n < 70) : PyData.strOk (strAt n) = true := List.all_eq_true.mp tab_ok _ (List.mem_of_getElem? (strAt_some h))
theorem avP_lay : ∀ (n : Nat) (a : AV), AV.plain n a = true → (avP a).canLay0 = true ∧ (avP a).depth ≤ n := by
  have all : ∀ (n : Nat), (∀ a, AV.plain n a = true → (avP a).canLay0 = true ∧ (avP a).depth ≤ n) → ∀ l : List AV, (∀ a ∈ l, AV.plain n a = true) → PyData.canLayAll0 (avPs l) = true ∧ PyData.depthAll (avPs l) ≤ n := by
    intro n ih l
    induction l with
    | nil => intro _; simp [avPs, PyData.canLayAll0, PyData.depthAll]
    | cons d ds hi =>
      intro h
      have h1 := ih d (h d (.head _))
      have h2 := hi fun e he => h e (.tail _ he)
      simp only [avPs, PyData.canLayAll0, PyData.depthAll, h1.1, h2.1, Bool.and_self, true_and]
      have a1 := h1.2
      have a2 := h2.2
      exact (Nat.max_le.2 ⟨h1.2, h2.2⟩)
  intro n
  induction n with
  | zero =>
    intro d h
    cases d <;> simp [AV.plain] at h <;> simp [avP, PyData.canLay0, PyData.depth]
    exact strAt_ok h
  | succ n ih =>
    intro d h
    cases d with
    | none => simp [avP, PyData.canLay0, PyData.depth]
    | int i => simp [avP, PyData.canLay0, PyData.depth]
    | str x => simp [AV.plain] at h; simp [avP, PyData.canLay0, PyData.depth, strAt_ok h]
    | tup l =>
      have q := all n ih l (by simpa [AV.plain] using h)
      have q2 := q.2
      simp only [avP, PyData.canLay0, PyData.depth, q.1, true_and]
      exact (lin [_, _] [.le (.v 0) (.v 1)] (.a (.v 0) (.n 1)) (.a (.v 1) (.n 1)) (.refl true) q.2)
    | _ => simp [AV.plain] at h
theorem avP_lays {l : List AV} {n : Nat} (h : ∀ a ∈ l, AV.plain n a = true) : PyData.canLayAll0 (avPs l) = true ∧ PyData.depthAll (avPs l) ≤ n + 1 := by
  have q := avP_lay (n + 1) (.tup l) (by simpa [AV.plain] using h)
  simp only [avP, PyData.canLay0, PyData.depth] at q
  exact ⟨q.1, by exact (lin [_, _] [.le (.a (.v 0) (.n 1)) (.a (.v 1) (.n 1))] (.v 0) (.a (.v 1) (.n 1)) (.refl true) q.2)⟩
theorem pn_b {n : Nat} {b : Bool} {P : Prop} (h : AV.plain n (.bool b) = true) : P := by cases n <;> exact Bool.noConfusion h
theorem pn_c {n i : Nat} {P : Prop} (h : AV.plain n (.cell i) = true) : P := by cases n <;> exact Bool.noConfusion h
theorem pn_s {n : Nat} {P : Prop} (h : AV.plain n .script = true) : P := by cases n <;> exact Bool.noConfusion h
theorem pn_str {n i : Nat} (h : AV.plain n (.str i) = true) : i < 70 := by cases n <;> exact of_decide_eq_true h
theorem pn_tup {n : Nat} {l : List AV} (h : AV.plain n (.tup l) = true) : ∃ m, ∀ a ∈ l, AV.plain m a = true := by
  cases n with
  | zero => exact Bool.noConfusion h
  | succ n => exact ⟨n, List.all_eq_true.mp h⟩
theorem nn {p q : Prop} (hp : ¬ p) (hq : ¬ q) : p ↔ q := ⟨fun x => absurd x hp, fun x => absurd x hq⟩
theorem eqv_core {n k : Nat} {d e : AV} (h1 : AV.plain n d = true) (h2 : AV.plain k e = true) (H : ∀ ds es, d = .tup ds → e = .tup es → (PyData.eqvAll (avPs ds) (avPs es) = true ↔ ds = es)) : PyData.eqv (avP d) (avP e) = true ↔ d = e := by
  cases d with
  | bool b => exact pn_b h1
  | cell b => exact pn_c h1
  | script => exact pn_s h1
  | none => cases e with
    | none => exact ⟨fun zz => rfl, fun zz => rfl⟩
    | bool b => exact pn_b h2
    | cell b => exact pn_c h2
    | script => exact pn_s h2
    | _ => exact nn Bool.false_ne_true AV.noConfusion
  | int i => cases e with
    | int j => exact ⟨fun x => congrArg AV.int (of_decide_eq_true x), fun x => decide_eq_true (AV.int.inj x)⟩
    | bool b => exact pn_b h2
    | cell b => exact pn_c h2
    | script => exact pn_s h2
    | _ => exact nn Bool.false_ne_true AV.noConfusion
  | str i => cases e with
    | str j => exact ⟨fun x => congrArg AV.str (strAt_inj (pn_str h1) (pn_str h2) (eq_of_beq x)), fun x => beq_iff_eq.mpr (congrArg strAt (AV.str.inj x))⟩
    | bool b => exact pn_b h2
    | cell b => exact pn_c h2
    | script => exact pn_s h2
    | _ => exact nn Bool.false_ne_true AV.noConfusion
  | tup ds => cases e with
    | tup es => exact (H ds es rfl rfl).trans ⟨congrArg AV.tup, AV.tup.inj⟩
    | bool b => exact pn_b h2
    | cell b => exact pn_c h2
    | script => exact pn_s h2
    | _ => exact nn Bool.false_ne_true AV.noConfusion
theorem avP_eqv : ∀ (n : Nat) (d e : AV) (k : Nat), AV.plain n d = true → AV.plain k e = true → (PyData.eqv (avP d) (avP e) = true ↔ d = e) := by
  have all : ∀ (n : Nat), (∀ d e k, AV.plain n d = true → AV.plain k e = true → (PyData.eqv (avP d) (avP e) = true ↔ d = e)) → ∀ (k : Nat) (ds es : List AV), (∀ d ∈ ds, AV.plain n d = true) → (∀ d ∈ es, AV.plain k d = true) →
      (PyData.eqvAll (avPs ds) (avPs es) = true ↔ ds = es) := by
    intro n ih k ds
    induction ds with
    | nil =>
      intro es _ _
      cases es with
      | nil => exact ⟨fun zz => rfl, fun zz => rfl⟩
      | cons _ _ => exact nn Bool.false_ne_true (fun x => nomatch x)
    | cons d ds hi =>
      intro es h1 h2
      cases es with
      | nil => exact nn Bool.false_ne_true (fun x => nomatch x)
      | cons e es =>
        have q1 := ih d e k (h1 d (.head _)) (h2 e (.head _))
        have q2 := hi es (fun x hx => h1 x (.tail _ hx)) fun x hx => h2 x (.tail _ hx)
        exact Bool.and_eq_true_iff.trans ((and_congr q1 q2).trans (List.cons.injEq d ds e es ▸ Iff.rfl))
  intro n
  induction n with
  | zero => exact fun d e k h1 h2 => eqv_core h1 h2 fun ds es a zz => by subst a; exact Bool.noConfusion h1
  | succ n ih =>
    refine fun d e k h1 h2 => eqv_core h1 h2 fun ds es a b => ?_
    subst a
    subst b
    cases k with
    | zero => exact Bool.noConfusion h2
    | succ k => exact all n ih k ds es (List.all_eq_true.mp h1) (List.all_eq_true.mp h2)
theorem avP_eqvs {ds es : List AV} {n k : Nat} (h1 : ∀ d ∈ ds, AV.plain n d = true) (h2 : ∀ d ∈ es, AV.plain k d = true) : PyData.eqvAll (avPs ds) (avPs es) = decide (ds = es) := by
  have q := avP_eqv (n + 1) (.tup ds) (.tup es) (k + 1) (by simpa [AV.plain] using h1) (by simpa [AV.plain] using h2)
  simp only [avP, PyData.eqv, AV.tup.injEq] at q
  by_cases hq : ds = es
  · rw [decide_eq_true hq]; exact q.mpr hq
  · rw [decide_eq_false hq]; exact Bool.eq_false_iff.mpr fun x => hq (q.mp x)
theorem avP_any {d : AV} {k : Nat} (hd : AV.plain k d = true) : ∀ {ds : List AV} {n : Nat}, (∀ e ∈ ds, AV.plain n e = true) → ((avPs ds).any (fun y => PyData.eqv y (avP d))) = decide (d ∈ ds)
  | [], _, _ => by simp [avPs]
  | e :: ds, n, h => by
    have q := avP_any hd (ds := ds) (n := n) fun x hx => h x (.tail _ hx)
    have q1 := avP_eqv n e d k (h e (.head _)) hd
    simp only [avPs, List.any_cons, q]
    by_cases h1 : e = d
    · subst h1; rw [q1.mpr rfl]; simp
    · have : PyData.eqv (avP e) (avP d) = false := Bool.eq_false_iff.mpr fun x => h1 (q1.mp x)
      have h1' : ¬ d = e := fun x => h1 x.symm
      rw [this]; simp [h1']
section
variable {B : Base} {h : Heap} {φ φ' : Links} {σ σ' : Store} {A : Around} {E : Value → Shared → Prop} {s : Shared}
theorem readsTwo : (∀ {v : Value} {a : AV}, VR B h φ v a → ∀ n : Nat, AV.plain n a = true → ∃ as, Reads h v (avP a) as) := fun x =>
  VR.rec (motive_1 := fun v a zz => ∀ n : Nat, AV.plain n a = true → ∃ as, Reads h v (avP a) as) (motive_2 := fun vs l zz => ∀ n : Nat, (∀ a ∈ l, AV.plain n a = true) → ∃ as, ReadsAll h vs (avPs l) as)
    (fun zz zz => ⟨_, Reads.none⟩) (fun zz zz => pn_b) (fun i t zz zz => ⟨_, Reads.int i t⟩) (fun {n x t} e _ _ => ⟨_, by rw [avP, strAt_of e]; exact Reads.str x t⟩)
    (fun ht zz zz r n hk => let ⟨m, q⟩ := pn_tup hk; let ⟨as, q⟩ := r m q; ⟨as, reads_tuple_at ht rfl rfl q⟩) (fun zz zz => pn_c) (fun zz => pn_s) (fun zz zz => ⟨_, ReadsAll.nil⟩)
    (fun zz zz r q n hk => let ⟨_, x⟩ := r n (hk _ (.head _)); let ⟨_, y⟩ := q n fun d hm => hk d (.tail _ hm); ⟨_, ReadsAll.cons x y⟩) x
theorem VR.reads {v : Value} {a : AV} (n : Nat) (x : VR B h φ v a) (p : AV.plain n a = true) : ∃ as, Reads h v (avP a) as := readsTwo x n p
theorem VRs.readsAll {vs : List Value} {l : List AV} (n : Nat) (x : VRs B h φ vs l) : (∀ a ∈ l, AV.plain n a = true) → ∃ as, ReadsAll h vs (avPs l) as :=
  VRs.ind (P := fun vs l => (∀ a ∈ l, AV.plain n a = true) → ∃ as, ReadsAll h vs (avPs l) as) (fun zz => ⟨_, ReadsAll.nil⟩) (fun r zz q hk => let ⟨_, x⟩ := r.reads n (hk _ (.head _)); let ⟨_, y⟩ := q fun d hm => hk d (.tail _ hm); ⟨_, ReadsAll.cons x y⟩) x
theorem plain_shaped {a : AV} (h : AV.plain 8 a = true) : shaped (avP a) = true := by
  have q := avP_lay 8 a h
  unfold shaped; rw [q.1, Bool.true_and]; exact decide_eq_true (Nat.le_trans q.2 (by decide))
theorem plains_shaped {l : List AV} (h : ∀ a ∈ l, AV.plain 8 a = true) : shaped (.list (avPs l)) = true := by
  have q := avP_lays h
  unfold shaped
  simp only [PyData.canLay0, PyData.depth, q.1, Bool.true_and]
  refine decide_eq_true ?_
  have := q.2
  exact (lin [_] [.le (.v 0) (.a (.n 8) (.n 1))] (.a (.v 0) (.n 1)) (.n 64) (.refl true) q.2)
theorem eqv_decide {a b : AV} (ha : AV.plain 8 a = true) (hb : AV.plain 8 b = true) : PyData.eqv (avP a) (avP b) = decide (a = b) := by
  have q := avP_eqv 8 a b 8 ha hb
  by_cases hq : a = b
  · rw [decide_eq_true hq]; exact q.mpr hq
  · rw [decide_eq_false hq]; exact Bool.eq_false_iff.mpr fun x => hq (q.mp x)
theorem eqV_reads {a b : AV} {u v : Value} {c : Bool} (e : eqV a b σ = some c) (S : SR B s.heap φ σ) (hu : VR B s.heap φ u a) (hv : VR B s.heap φ v b) :
    ∃ da db as bs, Reads s.heap u da as ∧ Reads s.heap v db bs ∧ shaped da = true ∧ shaped db = true ∧ PyData.eqv da db = c := by
  have gen : ∀ {a b : AV}, VR B s.heap φ u a → VR B s.heap φ v b → (if AV.plain 8 a && AV.plain 8 b then some (decide (a = b)) else none) = some c →
      ∃ da db as bs, Reads s.heap u da as ∧ Reads s.heap v db bs ∧ shaped da = true ∧ shaped db = true ∧ PyData.eqv da db = c := fun {a b} hu hv e => by
    obtain ⟨hp, e⟩ := ifS e
    obtain ⟨ha, hb⟩ := Bool.and_eq_true_iff.mp hp
    obtain ⟨as, ra⟩ := hu.reads 8 ha
    obtain ⟨bs, rb⟩ := hv.reads 8 hb
    exact ⟨_, _, as, bs, ra, rb, plain_shaped ha, plain_shaped hb, (eqv_decide ha hb).trans (Option.some.inj e)⟩
  cases a with
  | cell i => cases b with
    | cell j =>
      obtain ⟨x, hx, e⟩ := bindS e
      obtain ⟨y, hy, e⟩ := bindS e
      obtain ⟨hpl, e⟩ := ifS e
      obtain ⟨ha, hb⟩ := Bool.and_eq_true_iff.mp hpl
      rw [List.all_eq_true] at ha hb
      obtain ⟨a1, vs1, n1, e1, zz, g1, r1, zz⟩ := VR.list S hu hx
      obtain ⟨a2, vs2, n2, e2, zz, g2, r2, zz⟩ := VR.list S hv hy
      obtain ⟨as, ra⟩ := r1.readsAll 8 ha
      obtain ⟨bs, rb⟩ := r2.readsAll 8 hb
      rw [e1, e2]
      exact ⟨_, _, _, _, reads_list_at g1 rfl rfl ra, reads_list_at g2 rfl rfl rb, plains_shaped ha, plains_shaped hb, (avP_eqvs ha hb).trans (Option.some.inj e)⟩
    | _ => exact no e
  | _ => exact gen hu hv e
end
end Mine
end
-- S5
section
namespace Mine
open PySem PySem.W PySem.Calls PyProof.Rows PySem.SeqAt
section
variable {B : Base} {h : Heap} {φ φ' : Links} {σ σ' : Store} {A : Around} {E : Value → Shared → Prop} {s : Shared}
theorem dictAt_inv {i : Nat} {l : List (Int × AV)} (e : dictAt σ i = some l) : σ[i]? = some (.dict l) := by
  unfold dictAt at e
  generalize σ[i]? = o at e
  cases o with
  | none => exact no e
  | some c => cases c with
    | dict l' => cases e; rfl
    | _ => exact no e
theorem VR.dict {v : Value} {i : Nat} {l : List (Int × AV)} (S : SR B s.heap φ σ) (x : VR B s.heap φ v (.cell i)) (e : dictAt σ i = some l) : DictAt B s.heap φ v i l := by
  obtain ⟨⟨p1, p2⟩, hp, rfl⟩ := x.of_cell
  obtain ⟨c1, kvs, c2, c3, c4⟩ := S.cells i _ _ hp (dictAt_inv e)
  cases c1
  exact ⟨_, kvs, rfl, hp, c2, c3, c4⟩
theorem KRs.value {kvs : List (Int × Value)} {l : List (Int × AV)} (r : KRs B h φ kvs l) (k : Int) : match lookI k l with
    | some a => ∃ v, valueAt kvs k = some v ∧ VR B h φ v a
    | none => valueAt kvs k = none := by
  induction kvs generalizing l with
  | nil => cases r; rfl
  | cons p kvs ih => cases r with
    | @cons k' v a _ l hv r =>
      unfold lookI
      by_cases hk : k' = k
      · subst hk
        rw [if_pos rfl]
        exact ⟨v, by simp [valueAt], hv⟩
      · rw [if_neg hk]
        have := ih r
        have e : valueAt ((k', v) :: kvs) k = valueAt kvs k := by simp [valueAt, hk]
        rw [e]; exact this
theorem isNoneOk {a : AV} {u : Value} (hu : VR B h φ u a) : PySem.plainIs u .none = true ∧ (u == Value.none) = decide (a = .none) := by
  cases hu <;> simp [PySem.plainIs]
theorem cmpOk {op : CmpOp} {n : Nat} {a b : AV} {u v : Value} {c : Bool} {Q : Value → Shared → Prop} (G : Good B) (ok : AOk A n) (e : cmpV op a b σ = some c) (S : SR B s.heap φ σ) (hu : VR B s.heap φ u a) (hv : VR B s.heap φ v b)
    (r : Ret B s φ σ Q (.bool c)) : wpAny (model B.prog B.w) A (compareOp op u v) Q E s := by
  have room : A.units + 64 < cLine := by have := ok.2.2; unfold cLine; exact (linl [_, _] [.le (.a (.a (.v 0) (.m 30 (.v 1))) (.n 30)) (.n 9000)] (.a (.v 0) (.n 64)) (.n 9900) (.refl true) this)
  have fin : ∀ tk, Q (.bool c) { s with toks := tk } := fun tk => r.tok S (.bool c) tk
  cases op with
  | Eq =>
    have e : eqV a b σ = some c := e
    obtain ⟨da, db, as, bs, ra, rb, h1, h2, h3⟩ := eqV_reads e S hu hv
    exact eq_dataH ra rb h1 h2 room (by rw [h3]; exact fin _)
  | NotEq =>
    obtain ⟨c', hc, e⟩ := Option.map_eq_some_iff.mp e
    obtain ⟨da, db, as, bs, ra, rb, h1, h2, h3⟩ := eqV_reads hc S hu hv
    exact ne_dataH ra rb h1 h2 room (by rw [h3, e]; exact fin _)
  | Lt =>
    cases a with
    | int x => cases b with
      | int y =>
        obtain ⟨t, rfl⟩ := hu.inv
        obtain ⟨t', rfl⟩ := hv.inv
        obtain rfl := Option.some.inj e
        exact P.lt_int (fin _)
      | _ => exact no e
    | _ => exact no e
  | Gt =>
    cases a with
    | int x => cases b with
      | int y =>
        obtain ⟨t, rfl⟩ := hu.inv
        obtain ⟨t', rfl⟩ := hv.inv
        obtain rfl := Option.some.inj e
        exact P.gt_int (fin _)
      | _ => exact no e
    | _ => exact no e
  | GtE =>
    cases a with
    | int x => cases b with
      | int y =>
        obtain ⟨t, rfl⟩ := hu.inv
        obtain ⟨t', rfl⟩ := hv.inv
        obtain rfl := Option.some.inj e
        exact P.ge_int (fin _)
      | _ => exact no e
    | _ => exact no e
  | Is =>
    cases b with
    | none =>
      obtain rfl := hv.inv
      obtain ⟨h1, h2⟩ := isNoneOk hu
      exact wpAny_is_plain h1 (by rw [h2, Option.some.inj e]; exact fin _)
    | _ => exact no e
  | IsNot =>
    cases b with
    | none =>
      obtain rfl := hv.inv
      obtain ⟨h1, h2⟩ := isNoneOk hu
      refine wpAny_isNot_plain h1 ?_
      rw [h2, show (!decide (a = AV.none)) = c from (decide_not ..).symm.trans (Option.some.inj e)]; exact fin _
    | _ => exact no e
  | In =>
    cases b with
    | tup l2 =>
        obtain ⟨a2, vs2, k2, rfl, h2, r2, s2⟩ := hv.inv
        obtain ⟨hp, e⟩ := ifS e
        obtain ⟨hl, ha⟩ := Bool.and_eq_true_iff.mp hp
        rw [List.all_eq_true] at hl
        obtain ⟨as, ra⟩ := hu.reads 8 ha
        obtain ⟨bs, rb⟩ := r2.readsAll 8 hl
        have lay := avP_lays hl
        have la := avP_lay 8 a ha
        refine in_tuple_reads (reads_tuple_at h2 rfl rfl (by simpa using rb)) ra lay.1 la.1 ?_ (by rw [avP_any ha hl, Option.some.inj e]; exact fin _)
        have := la.2
        have := Nat.min_le_right (PyData.depthAll (avPs l2)) (avP a).depth
        exact (linl [_, _, _, _] [.lt (.a (.v 0) (.n 64)) (.v 1), .le (.v 2) (.v 3), .le (.v 3) (.n 8)] (.a (.a (.v 0) (.n 1)) (.v 2)) (.v 1) (.refl true) room this la.2)
    | cell i =>
      cases a with
      | int k =>
        obtain ⟨t, rfl⟩ := hu.inv
        obtain ⟨l, hl, e⟩ := mapS e
        obtain ⟨d, kvs, rfl, e2, e3, e4, e5⟩ := VR.dict S hv hl
        have hne : (d == sysModules) = false := by
          rw [beq_eq_false_iff_ne]
          rintro rfl
          obtain ⟨o, ho⟩ := G.sys
          have := S.fresh _ (List.mem_of_getElem? e2)
          rw [ho] at this; cases this
        refine wpAny_in_of (knd := intKind B.prog B.w) (k := k) (by simp [intKind, Value.isInt]) hne e3.mapOf ?_
        have q := e4.value k
        have : (valueAt kvs k).isSome = c := by
          rw [← e]
          cases hq : lookI k l with
          | none => rw [hq] at q; dsimp only at q; rw [q]; rfl
          | some x => rw [hq] at q; obtain ⟨w, hw, zz⟩ := q; rw [hw]; rfl
        rw [this]; exact fin _
      | _ => exact no e
    | _ => exact no e
  | NotIn =>
    cases b with
    | tup l2 =>
        obtain ⟨a2, vs2, k2, rfl, h2, r2, s2⟩ := hv.inv
        obtain ⟨hp, e⟩ := ifS e
        obtain ⟨hl, ha⟩ := Bool.and_eq_true_iff.mp hp
        rw [List.all_eq_true] at hl
        obtain ⟨as, ra⟩ := hu.reads 8 ha
        obtain ⟨bs, rb⟩ := r2.readsAll 8 hl
        have lay := avP_lays hl
        have la := avP_lay 8 a ha
        refine notIn_tuple_reads (reads_tuple_at h2 rfl rfl (by simpa using rb)) ra lay.1 la.1 ?_ (by rw [avP_any ha hl, Option.some.inj e]; exact fin _)
        have := la.2
        have := Nat.min_le_right (PyData.depthAll (avPs l2)) (avP a).depth
        exact (linl [_, _, _, _] [.lt (.a (.v 0) (.n 64)) (.v 1), .le (.v 2) (.v 3), .le (.v 3) (.n 8)] (.a (.a (.v 0) (.n 1)) (.v 2)) (.v 1) (.refl true) room this la.2)
    | _ => exact no e
  | _ => exact no e
theorem truthyOk {a : AV} {u : Value} {c : Bool} {Q : Bool → Shared → Prop} (e : truthyV a σ = some c) (S : SR B s.heap φ σ) (hu : VR B s.heap φ u a) (r : RetB B s φ σ Q c) :
    wpAny (model B.prog B.w) A (truthy u) Q E s := by
  cases a with
  | bool b => cases e; obtain rfl := hu.inv; exact wpAny_truthy_bool (r.here S)
  | cell i =>
    obtain ⟨l, hl, e⟩ := mapS e
    obtain ⟨a1, vs1, n1, rfl, zz, g1, r1, s1⟩ := VR.list S hu hl
    refine wpAny_truthy_list ⟨_, g1, rfl, _, rfl⟩ (by simp only [List.size_toArray, r1.length]; unfold lim at s1; omega) ?_
    have : (!(List.toArray vs1).isEmpty) = c := e ▸ (by cases r1 <;> exact rfl)
    rw [this]; exact r.here S
  | _ => exact no e
theorem seqAt_index {l : List AV} {k : Int} {a : AV} (e : seqAt l k = some a) : ∃ j, seqIndex? k l.length = some j ∧ l[j]? = some a ∧ (0 ≤ k → k < l.length) ∧ -(l.length : Int) ≤ k := by
  unfold seqAt at e
  unfold seqIndex?
  split at e
  · rename_i h0
    have hl : k.toNat < l.length := by
      rcases Nat.lt_or_ge k.toNat l.length with q | q
      · exact q
      · rw [List.getElem?_eq_none q] at e; cases e
    refine ⟨k.toNat, ?_, e, fun zz => by omega, by omega⟩
    have : ¬ k < 0 := by omega
    simp only [this, if_false]
    rw [if_pos (by simp; omega)]
  · rename_i h0
    split at e
    · rename_i h1
      have hl : (k + l.length).toNat < l.length := by omega
      refine ⟨_, ?_, e, fun x => absurd x h0, h1⟩
      have : k < 0 := by omega
      simp only [this, if_true]
      rw [if_pos (by simp; omega)]
    · cases e
theorem idx_a {n : Nat} {k : Int} (h : n ≤ lim) (e : -(n : Int) ≤ k) : -(2 ^ 63) ≤ k := by unfold lim at h; omega
theorem idx_b {n : Nat} {k : Int} (h : n ≤ lim) (e : 0 ≤ k → k < (n : Int)) : k < 2 ^ 63 := by
  rcases Int.lt_or_le k 0 with q | q
  · omega
  · have := e q; unfold lim at h; omega
theorem intKind_int {k : Int} {t : Tok} : (intKind B.prog B.w).is k (.int k t) = true := by simp [intKind, Value.isInt]
theorem idxInv {a b c : AV} (e : idxV a b σ = some c) : ∃ k, b = .int k ∧ ((∃ l, a = .tup l ∧ seqAt l k = some c) ∨ ∃ i, a = .cell i ∧ ((∃ l, listAt σ i = some l ∧ seqAt l k = some c) ∨ ∃ l, dictAt σ i = some l ∧ lookI k l = some c)) := by
  cases a with
  | tup l => cases b with
    | int k => exact ⟨k, rfl, .inl ⟨l, rfl, e⟩⟩
    | _ => exact no e
  | cell i => cases b with
    | int k =>
      refine ⟨k, rfl, .inr ⟨i, rfl, ?_⟩⟩
      unfold listAt dictAt
      dsimp only [idxV] at e
      generalize σ[i]? = o at e
      cases o with
      | none => exact no e
      | some d => cases d with
        | list l => exact .inl ⟨l, rfl, e⟩
        | dict l => exact .inr ⟨l, rfl, e⟩
        | obj _ _ => exact no e
    | _ => exact no e
  | _ => exact no e
theorem idxOk {a b c : AV} {u v : Value} {Q : Value → Shared → Prop} (e : idxV a b σ = some c) (S : SR B s.heap φ σ) (hu : VR B s.heap φ u a) (hv : VR B s.heap φ v b) (r : Ret B s φ σ Q c) :
    wpAny (model B.prog B.w) A (getItem u v) Q E s := by
  obtain ⟨k, rfl, e2⟩ := idxInv e
  clear e
  obtain ⟨t, rfl⟩ := hv.inv
  rcases e2 with ⟨l1, rfl, e⟩ | ⟨i, rfl, ⟨l, hl, e⟩ | ⟨l, hl, e⟩⟩
  · obtain ⟨a1, vs1, k1, rfl, h1, r1, s1⟩ := hu.inv
    obtain ⟨j, q1, q2, q3, q4⟩ := seqAt_index e
    obtain ⟨w, hw, rw'⟩ := r1.get q2
    have hlen := r1.length
    refine P.getItem_tuple h1 (idx_a s1 q4) (idx_b s1 q3) (by rw [List.size_toArray, hlen]; exact q1) (by rw [List.getElem?_toArray]; exact hw) (r.tok S rw' s.toks)
  · obtain ⟨a1, vs1, n1, rfl, zz, g1, r1, s1⟩ := VR.list S hu hl
    obtain ⟨j, q1, q2, q3, q4⟩ := seqAt_index e
    obtain ⟨w, hw, rw'⟩ := r1.get q2
    have hlen := r1.length
    have il : s.heap.IsList a1 (List.toArray vs1) := ⟨_, g1, rfl, _, rfl⟩
    have hw' : (List.toArray vs1)[j]? = some w := by rw [List.getElem?_toArray]; exact hw
    unfold seqIndex? at q1
    by_cases h0 : k < 0
    · rw [if_pos h0] at q1
      obtain ⟨zz, q1⟩ := ifS q1
      cases q1
      exact wpAny_getItem_list_neg il h0 (by rw [List.size_toArray, hlen]; exact q4) (idx_a s1 q4) (by rw [List.size_toArray, hlen]; exact hw') (r.tok S rw' s.toks)
    · rw [if_neg h0] at q1
      obtain ⟨zz, q1⟩ := ifS q1
      cases q1
      exact wpAny_getItem_list il (Int.not_lt.mp h0) (idx_b s1 q3) hw' (r.tok S rw' s.toks)
  · obtain ⟨d, kvs, rfl, e2, e3, e4, e5⟩ := VR.dict S hu hl
    have q := e4.value k
    rw [e] at q
    obtain ⟨w, hw, rw'⟩ := q
    exact wpAny_getItem_of (knd := intKind B.prog B.w) (k := k) intKind_int e3.mapOf hw (r.tok S rw' _)
theorem KRs.put {kvs : List (Int × Value)} {l : List (Int × AV)} {k : Int} {v : Value} {a : AV} (r : KRs B h φ kvs l) (hv : VR B h φ v a) (nd : (kvs.map (·.1)).Nodup) : KRs B h φ (stored kvs k v) (putI k a l) := by
  have keys : ∀ {kvs : List (Int × Value)} {l : List (Int × AV)}, KRs B h φ kvs l → kvs.any (fun kv => kv.1 = k) = true → (kvs.map (·.1)).Nodup → KRs B h φ (kvs.map fun kv => if kv.1 = k then (kv.1, v) else kv) (putI k a l) := by
    intro kvs
    induction kvs with
    | nil => intro l r e; simp at e
    | cons p kvs ih =>
      intro l r e nd
      cases r with
      | @cons k' w b _ l hw r =>
        unfold putI
        by_cases hk : k' = k
        · subst hk
          rw [if_pos rfl]
          have : (kvs.map fun kv => if kv.1 = k' then (kv.1, v) else kv) = kvs := by
            refine map_store_of_not_mem kvs k' v ?_
            simp only [List.map_cons, List.nodup_cons] at nd
            exact nd.1
          simp only [List.map_cons, this]
          exact .cons hv r
        · rw [if_neg hk]
          simp only [List.map_cons, if_neg hk]
          refine .cons hw (ih r ?_ ?_)
          · simpa [hk] using e
          · simp only [List.map_cons, List.nodup_cons] at nd; exact nd.2
  have none : ∀ {kvs : List (Int × Value)} {l : List (Int × AV)}, KRs B h φ kvs l → kvs.any (fun kv => kv.1 = k) = false → KRs B h φ (kvs ++ [(k, v)]) (putI k a l) := by
    intro kvs
    induction kvs with
    | nil => intro l r e; cases r; exact .cons hv .nil
    | cons p kvs ih =>
      intro l r e
      cases r with
      | @cons k' w b _ l hw r =>
        have hk : ¬ k' = k := by simp at e; exact e.1
        unfold putI
        rw [if_neg hk]
        exact .cons hw (ih r (by simp at e ⊢; exact e.2))
  unfold stored
  cases q : kvs.any fun kv => decide (kv.1 = k) with
  | true => simp only [if_true]; exact keys r q nd
  | false => simp only [Bool.false_eq_true, if_false]; exact none r q
theorem putI_length (k : Int) (a : AV) : ∀ l : List (Int × AV), (putI k a l).length ≤ l.length + 1
  | [] => by simp [putI]
  | (y, u) :: r => by
    unfold putI
    split
    · simp
    · have := putI_length k a r
      simp; exact this
theorem ret_unit {Q : Unit → Shared → Prop} {i : Nat} {p : Addr × Addr} {c : Cell} {h' : Heap} {tk : Nat} (S : SR B s.heap φ σ) (e : φ[i]? = some p) (k : Heap.ExtBut p.2 s.heap h') (r : Step φ φ s.heap h' → CellR B h' φ p c)
    (q : ∀ h' tk, Step φ φ s.heap h' → SR B h' φ (σ.set i c) → Q () { s with heap := h', toks := tk }) : Q () { s with heap := h', toks := tk } := by
  obtain ⟨S', st⟩ := S.set e k r
  exact q h' tk st S'
theorem setInv {a b c : AV} (e : setIdxV a b c σ = some σ') : ∃ i k, a = .cell i ∧ b = .int k ∧ ((∃ l, listAt σ i = some l ∧ (0 ≤ k ∧ k < l.length) ∧ σ' = σ.set i (.list (l.set k.toNat c))) ∨ ∃ l, dictAt σ i = some l ∧ l.length < lim ∧ σ' = σ.set i (.dict (putI k c l))) := by
  cases a with
  | cell i => cases b with
    | int k =>
      refine ⟨i, k, rfl, rfl, ?_⟩
      unfold listAt dictAt
      dsimp only [setIdxV] at e
      generalize σ[i]? = o at e
      cases o with
      | none => exact no e
      | some d => cases d with
        | list l => obtain ⟨h, e⟩ := ifS e; exact .inl ⟨l, rfl, h, (Option.some.inj e).symm⟩
        | dict l => obtain ⟨h, e⟩ := ifS e; exact .inr ⟨l, rfl, h, (Option.some.inj e).symm⟩
        | obj _ _ => exact no e
    | _ => exact no e
  | _ => exact no e
theorem setIdxOk {a b c : AV} {u v w : Value} {Q : Unit → Shared → Prop} (e : setIdxV a b c σ = some σ') (S : SR B s.heap φ σ) (hu : VR B s.heap φ u a) (hv : VR B s.heap φ v b) (hw : VR B s.heap φ w c)
    (q : ∀ h' tk, Step φ φ s.heap h' → SR B h' φ σ' → Q () { s with heap := h', toks := tk }) : wpAny (model B.prog B.w) A (setItem u v w) Q E s := by
  obtain ⟨i, k, rfl, rfl, ⟨l, hl, hk, rfl⟩ | ⟨l, hl, hz, rfl⟩⟩ := setInv e
  · obtain ⟨t, rfl⟩ := hv.inv
    obtain ⟨a1, vs1, n1, rfl, e2, g1, r1, s1⟩ := VR.list S hu hl
    refine ki_setAt g1 hk.1 (idx_b s1 fun zz => hk.2) (by rw [List.size_toArray, r1.length]; exact hk.2) ?_
    refine ret_unit (c := .list (l.set k.toNat c)) (tk := s.toks) S e2 (Heap.SameBut.update ..).extBut (fun st => ⟨rfl, vs1.set k.toNat w, ⟨n1, ?_⟩, (r1.set hw k.toNat).step S st, by rw [List.length_set]; exact s1⟩) q
    rw [Heap.get?_update_self _ g1 (by simp [Obj.mapSeq, Obj.isFreed])]
    simp [Obj.mapSeq]
  · obtain ⟨t, rfl⟩ := hv.inv
    obtain ⟨d, kvs, rfl, e2, e3, e4, e5⟩ := VR.dict S hu hl
    have hnd : (kvs.map (·.1)).Nodup := by obtain ⟨zz, zz, zz, zz, zz, zz, zz, zz, x⟩ := e3; exact x
    refine wpAny_setItem_pairs (knd := intKind B.prog B.w) (k := k) intKind_int e3 (fun h' hm hs => ?_) (by rw [e4.length]; exact lim_line e5)
    refine ret_unit (c := .dict (putI k c l)) S e2 hs.extBut (fun st => ⟨rfl, _, hm, (e4.put hw hnd).step S st, Nat.le_trans (putI_length k c l) hz⟩) q
end
end Mine
end
-- S6
section
namespace Mine
open PySem PySem.W PySem.Calls PyProof.Rows PySem.SeqAt
section
variable {B : Base} {h : Heap} {φ φ' : Links} {σ σ' : Store} {A : Around} {E : Value → Shared → Prop} {s : Shared}
theorem tab_inj {i j : Nat} {x y : Str} (hi : tab[i]? = some x) (hj : tab[j]? = some y) (e : x = y) : i = j := by
  have h1 : i < 70 := by rw [← tab_size]; exact (List.getElem?_eq_some_iff.mp hi).1
  have h2 : j < 70 := by rw [← tab_size]; exact (List.getElem?_eq_some_iff.mp hj).1
  exact strAt_inj h1 h2 (by rw [strAt_of hi, strAt_of hj, e])
theorem isStr_of {e : DictEntry} {x : Str} {t : Tok} (h : e.key = .str x t) (y : Str) : e.key.isStr y = (x == y) := by rw [h]; rfl
theorem noRef_of {e : DictEntry} {x : Str} {t : Tok} (h : e.key = .str x t) : e.refKey = false := by unfold DictEntry.refKey; rw [h]
theorem ARs.get {es : List DictEntry} {l : List (Nat × AV)} (r : ARs B h φ es l) : ∀ {n : Nat} {x : Str} {a : AV}, tab[n]? = some x → lookN n l = some a → ∃ v, getL x es = some (some v) ∧ VR B h φ v a := by
  induction r with
  | nil => exact fun zz e => no e
  | @cons en m y t b es l h1 h2 h3 r ih =>
    intro n x a hx e
    by_cases hq : m = n
    · subst hq
      obtain rfl := Option.some.inj ((if_pos rfl).symm.trans e)
      rw [hx] at h1; cases h1
      exact ⟨_, by simp [getL, isStr_of h2], h3⟩
    · have e := (if_neg hq).symm.trans e
      have hne : (y == x) = false := by
        rw [beq_eq_false_iff_ne]
        exact fun z => hq (tab_inj h1 hx z)
      obtain ⟨v, a1, a2⟩ := ih hx e
      refine ⟨v, ?_, a2⟩
      unfold getL at a1 ⊢
      rw [List.find?_cons, isStr_of h2, hne]
      have hk := noRef_of h2
      cases q : es.find? (·.key.isStr x) with
      | some e' => rw [q] at a1; exact a1
      | none =>
        rw [q] at a1
        dsimp only at a1
        split at a1 <;> cases a1
theorem ARs.noRef {es : List DictEntry} {l : List (Nat × AV)} (x : ARs B h φ es l) : es.any (·.refKey) = false :=
  ARs.rec (motive := fun es zz zz => es.any (·.refKey) = false) rfl (fun zz b zz zz r => by rw [List.any_cons, r, noRef_of b]; rfl) x
theorem ARs.known : ∀ {es : List DictEntry} {l : List (Nat × AV)}, ARs B h φ es l → ∀ x : Str, (getL x es).isSome = true := fun {es l} r x => by
  unfold getL
  cases q : es.find? (·.key.isStr x) with
  | some e => rfl
  | none => rw [r.noRef]; rfl
theorem ARs.not_in {es : List DictEntry} {l : List (Nat × AV)} (r : ARs B h φ es l) : ∀ x : Str, (∀ n y, n ∈ l.map (·.1) → tab[n]? = some y → y ≠ x) → getL x es = some none := by
  induction r with
  | nil => exact fun zz zz => rfl
  | @cons en m y t b es l h1 h2 h3 r ih =>
    intro x hn
    have hne : (y == x) = false := by
      rw [beq_eq_false_iff_ne]
      exact hn m y (by simp) h1
    have ih := ih x fun n z hz => hn n z (List.mem_cons_of_mem _ hz)
    unfold getL at ih ⊢
    rw [List.find?_cons, isStr_of h2, hne]
    have hk := noRef_of h2
    rw [List.any_cons, hk, Bool.false_or]
    exact ih
theorem ARs.put {es : List DictEntry} {l : List (Nat × AV)} (r : ARs B h φ es l) : ∀ {n : Nat} {x : Str} {a : AV} {v : Value} {hsh : Int} {t : Tok}, tab[n]? = some x → VR B h φ v a → ARs B h φ (putL x hsh (.str x t) v es) (Mine.putN n a l) := by
  induction r with
  | nil => exact fun hx hv => .cons hx rfl hv .nil
  | @cons en m y t' b es l h1 h2 h3 r ih =>
    intro n x a v hsh t hx hv
    unfold putL Mine.putN
    by_cases hq : m = n
    · subst hq
      rw [hx] at h1; cases h1
      rw [if_pos rfl, isStr_of h2, if_pos (by simp)]
      exact .cons hx h2 hv r
    · have hne : (y == x) = false := by
        rw [beq_eq_false_iff_ne]
        exact fun z => hq (tab_inj h1 hx z)
      rw [if_neg hq, isStr_of h2, hne]
      exact .cons h1 h2 h3 (ih hx hv)
theorem putN_length (n : Nat) (a : AV) : ∀ l : List (Nat × AV), (Mine.putN n a l).length ≤ l.length + 1
  | [] => by simp [Mine.putN]
  | (y, u) :: r => by
    unfold Mine.putN
    split
    · simp
    · have := putN_length n a r
      simp; exact this
theorem putL_length (x : Str) (hsh : Int) (key v : Value) : ∀ l : List DictEntry, (putL x hsh key v l).length ≤ l.length + 1
  | [] => by simp [putL]
  | e :: r => by
    unfold putL
    split
    · simp
    · have := putL_length x hsh key v r
      simp; exact this
theorem objAt_inv {i : Nat} {c : Cls} {l : List (Nat × AV)} (e : objAt σ i = some (c, l)) : σ[i]? = some (.obj c l) := by
  unfold objAt at e
  generalize σ[i]? = o at e
  cases o with
  | none => exact no e
  | some x => cases x with
    | obj c' l' => cases e; rfl
    | _ => exact no e
theorem VR.obj {v : Value} {i : Nat} {c : Cls} {l : List (Nat × AV)} (S : SR B s.heap φ σ) (x : VR B s.heap φ v (.cell i)) (e : objAt σ i = some (c, l)) : ObjAt B s.heap φ v i c l := by
  obtain ⟨p, hp, rfl⟩ := x.of_cell
  obtain ⟨c1, es, n, c2, c3, c4⟩ := S.cells i p _ hp (objAt_inv e)
  exact ⟨p, es, n, rfl, hp, c1, c2, c3, c4⟩
theorem SR.kin (G : Good B) (S : SR B h φ σ) : B.K.In h := G.kin.keeps S.base
theorem VR.handed {v : Value} {a : AV} (x : VR B h φ v a) : handedIn v = true := VR.rec (motive_1 := fun v zz zz => handedIn v = true) (motive_2 := fun zz zz zz => True) rfl (fun zz => rfl) (fun zz zz => rfl) (fun zz => rfl) (fun zz zz zz zz => rfl) (fun zz => rfl) rfl trivial (fun zz zz zz zz => trivial) x
theorem codeOf_tab {x : Str} {n : Nat} (e : codeOf x = some n) : tab[n]? = some x := by
  unfold codeOf at e
  generalize tab = T at e
  induction T generalizing n with
  | nil => cases e
  | cons y r ih =>
    by_cases h : seq y x = true
    · cases (if_pos h).symm.trans e; rw [seq_iff.mp h]; rfl
    · obtain ⟨j, hj, rfl⟩ := mapS ((if_neg h).symm.trans e)
      exact ih hj
theorem attrOkIn_of {K : Frag} {C : Addr} {x : Str} (h : attrOkIn K C x = true) : plainGet K C x = true ∧ hasDictIn K C = true ∧ findIn K (.ref C) x = some none ∧ takerIn K C x = some none := by
  unfold attrOkIn at h
  simp only [Bool.and_eq_true, beq_iff_eq] at h
  exact ⟨h.1.1.1, h.1.1.2, h.1.2, h.2⟩
theorem clsOkIn_of {K : Frag} {C fI : Addr} (h : clsOkIn K C fI = true) : plainOver K C = true ∧ findIn K (.ref C) "__setattr__" = some (some (.builtin "object.__setattr__")) ∧ makesIn K C = true ∧ findIn K (.ref C) "__init__" = some (some (.ref fI)) ∧ isFn K (.ref fI) = true ∧ keepIn K (.ref C) = true := by
  unfold clsOkIn at h
  simp only [Bool.and_eq_true, beq_iff_eq] at h
  exact ⟨h.1.1.1.1.1, h.1.1.1.1.2, h.1.1.1.2, h.1.1.2, h.1.2, h.2⟩
theorem attrOk {a c : AV} {u : Value} {x : Str} {n : Nat} {b : Bool} {Q : Value → Shared → Prop} (G : Good B) (hx : codeOf x = some n) (e : attrV a n σ = some c) (S : SR B s.heap φ σ) (hu : VR B s.heap φ u a) (r : Ret B s φ σ Q c) :
    wpAny (model B.prog B.w) A (getAttr u x b) Q E s := by
  cases a with
  | cell i =>
      obtain ⟨⟨cl, l⟩, hl, e⟩ := bindS e
      obtain ⟨hat, e⟩ := ifS e
      obtain ⟨p', es, k, rfl, e2, e3, e4, e5, e6⟩ := VR.obj S hu hl
      obtain ⟨g1, g2, g3, g4⟩ := attrOkIn_of (G.attrs cl n x hat (codeOf_tab hx))
      obtain ⟨v, v1, v2⟩ := e5.get (codeOf_tab hx) e
      refine get_value (S.kin G) (C := B.clsA cl) (ox := instObj (B.clsA cl) p'.2) (od := some (dictOf es k)) ⟨e3, rfl, rfl, e4⟩ (plainGet_of g1).1 (findObj_own g2 g3 rfl ?_) v2.handed (r.tok S v2 _)
      rw [lookIn_dict]; exact v1
  | _ => exact no e
theorem osa_mine {prog : Program} {w : World} {A : Around} {K : Frag} {C x : Addr} {s : Shared} {R : Result → Shared → Prop} {dx : Addr} {name : Str} {tk : Tok} {v : Value} {es : List DictEntry} {n : Nat} (X : K.In s.heap)
    (I : InstAt s.heap x (instObj C dx) C (some (dictOf es n))) (hp : plainOver K C = true) (ht : takerIn K C name = some none) (hh : hasDictIn K C = true) (hl : (getL name es).isSome = true) (hz : es.length ≤ 900)
    (h : R (.ok (.ret .none)) { s with heap := s.heap.update dx (Obj.putName name (PyData.keyHash w.params name) (.str name s.toks) v), toks := s.toks + 1 }) :
    codeAny (model prog w) A (.call (.builtin "object.__setattr__") ⟨[.ref x, .str name tk, v], []⟩) R s := by
  refine osa_open X I hp ht fun b => ?_
  obtain ⟨cd, hc, hd'⟩ := any_some hh
  obtain ⟨hx, hcl, hn, D⟩ := I
  dsimp only at D
  have D' : (s.heap.update dx (Obj.putName name (PyData.keyHash w.params name) (.str name s.toks) v)).get? dx = some (dictOf (putL name (PyData.keyHash w.params name) (.str name s.toks) v es) (W.putN name es n)) := by
    rw [Heap.get?_update_self _ D (by rw [putName_dict]; rfl), putName_dict]
  refine wpAny_bind (wpAny_pure (wpAny_bind (wpAny_bind (wpAny_loadPart hx (wpAny_bind ((looks_clsIn X hc).here ?_))))))
  rw [hd']
  refine wpAny_pure (a := some dx) (wpAny_bind (wpAny_pure (wpAny_bind ?_)))
  unfold nsSet
  refine wpAny_bind (wpAny_bind (wpAny_askSetting (wpAny_pure (wpAny_bind (wpAny_mkText (wpAny_bind (wpAny_loadPart D ?_)))))))
  have c : (!es.toArray.any (·.key.isStr name) && es.toArray.any (·.refKey)) = false := by
    rw [← Array.any_toList, ← Array.any_toList]
    unfold getL at hl
    split at hl
    · rename_i en he
      rw [List.any_eq_true.mpr ⟨en, List.mem_of_find?_eq_some he, List.find?_some he⟩]; rfl
    · split at hl
      · cases hl
      · rename_i z; rw [Bool.not_eq_true] at z; rw [z, Bool.and_false]
  dsimp only
  rw [aRefKeyMayBeTheName_at, c]
  refine wpAny_updatePart D ?_
  have hlen := putL_length name (PyData.keyHash w.params name) (.str name s.toks) v es
  refine wpAny_bind (wpAny_lookBehind D' (pastItsLine_dict (by rw [List.size_toArray, sizeLine_eq]; exact (lin [_, _] [.le (.v 0) (.a (.v 1) (.n 1)), .le (.v 1) (.n 900)] (.v 0) (.a (.n 16777216) (.n 1)) (.refl true) hlen hz))) ?_)
  exact wpAny_pure h
theorem setAttrOk {a c : AV} {u v : Value} {x : Str} {n : Nat} {Q : Unit → Shared → Prop} (G : Good B) (hx : codeOf x = some n) (e : setAttrV a n c σ = some σ') (S : SR B s.heap φ σ) (hu : VR B s.heap φ u a) (hv : VR B s.heap φ v c)
    (q : ∀ h' tk, Step φ φ s.heap h' → SR B h' φ σ' → Q () { s with heap := h', toks := tk }) : wpAny (model B.prog B.w) A (setAttr u x v) Q E s := by
  cases a with
  | cell i =>
      obtain ⟨⟨cl, l⟩, hl, e⟩ := bindS e
      obtain ⟨hat, e⟩ := ifS e
      obtain ⟨hat, hz⟩ := Bool.and_eq_true_iff.mp hat
      cases e
      obtain ⟨p', es, k, rfl, e2, e3, e4, e5, e6⟩ := VR.obj S hu hl
      obtain ⟨g1, g2, g3, g4⟩ := attrOkIn_of (G.attrs cl n x hat (codeOf_tab hx))
      obtain ⟨k1, k2, k3, k4, k5, k6⟩ := clsOkIn_of (G.cls cl)
      have I : InstAt s.heap p'.1 (instObj (B.clsA cl) p'.2) (B.clsA cl) (some (dictOf es k)) := ⟨e3, rfl, rfl, e4⟩
      have hes := e5.length
      refine set_plain (S.kin G) I k2 (osa_mine (s := { s with toks := s.toks + 1 }) (S.kin G) I k1 g4 g2 (e5.known x) (by exact (lin [_, _] [.eq (.v 0) (.v 1), .le (.v 1) (.n 100)] (.v 0) (.n 900) (.refl true) hes e6)) ?_)
      show Q () { s with heap := _, toks := _ }
      refine ret_unit (c := .obj cl (Mine.putN n c l)) S e2 (Heap.SameBut.update ..).extBut (fun st => ?_) q
      refine ⟨st.keep _ _ e3 (S.off e3 not_mutable_inst), _, _, by rw [Heap.get?_update_self _ e4 (by rw [putName_dict]; rfl), putName_dict], (e5.put (codeOf_tab hx) hv).step S st, ?_⟩
      exact Nat.le_trans (putN_length n c l) (of_decide_eq_true hz)
  | _ => exact no e
end
end Mine
end
-- S7
section
namespace Mine
open PySem PySem.W PySem.Calls PyProof.Rows PySem.SeqAt
theorem insI_perm (x : Int) : ∀ l : List Int, (insI x l).Perm (x :: l)
  | [] => List.Perm.refl _
  | y :: r => by
    unfold insI
    split
    · exact List.Perm.refl _
    · exact ((insI_perm x r).cons y).trans (List.Perm.swap x y r)
theorem sortI_perm : ∀ l : List Int, (sortI l).Perm l
  | [] => List.Perm.refl _
  | x :: r => (insI_perm x _).trans ((sortI_perm r).cons x)
theorem insI_sorted (x : Int) : ∀ {l : List Int}, l.Pairwise (· ≤ ·) → (insI x l).Pairwise (· ≤ ·)
  | [], _ => by simp [insI]
  | y :: r, h => by
    obtain ⟨h1, h2⟩ := List.pairwise_cons.mp h
    unfold insI
    split
    · rename_i hx
      refine List.pairwise_cons.mpr ⟨fun z hz => ?_, h⟩
      rcases List.mem_cons.mp hz with rfl | hz
      · exact hx
      · exact Int.le_trans hx (h1 z hz)
    · rename_i hx
      refine List.pairwise_cons.mpr ⟨fun z hz => ?_, insI_sorted x h2⟩
      rcases List.mem_cons.mp ((insI_perm x r).mem_iff.mp hz) with rfl | hz
      · omega
      · exact h1 z hz
theorem sortI_sorted : ∀ l : List Int, (sortI l).Pairwise (· ≤ ·)
  | [] => List.Pairwise.nil
  | x :: r => insI_sorted x (sortI_sorted r)
theorem sorted_unique : ∀ {a b : List Int}, a.Perm b → a.Pairwise (· ≤ ·) → b.Pairwise (· ≤ ·) → a = b
  | [], b, p, _, _ => (List.nil_perm.mp p).symm
  | x :: r, [], p, _, _ => (List.perm_nil.mp p)
  | x :: r, y :: t, p, h1, h2 => by
    obtain ⟨a1, a2⟩ := List.pairwise_cons.mp h1
    obtain ⟨b1, b2⟩ := List.pairwise_cons.mp h2
    have hx : y ≤ x := by
      rcases List.mem_cons.mp (p.mem_iff.mp (.head _)) with e | e
      · omega
      · exact b1 x e
    have hy : x ≤ y := by
      rcases List.mem_cons.mp (p.mem_iff.mpr (.head _)) with e | e
      · omega
      · exact a1 y e
    have : x = y := Int.le_antisymm hy hx
    subst this
    rw [sorted_unique p.cons_inv a2 b2]
theorem sortI_eq {a l : List Int} (p : a.Perm l) (h : a.Pairwise (· ≤ ·)) : a = sortI l := sorted_unique (p.trans (sortI_perm l).symm) h (sortI_sorted l)
theorem sortI_length (l : List Int) : (sortI l).length = l.length := (sortI_perm l).length_eq
section
variable {B : Base} {h : Heap} {φ φ' : Links} {σ σ' : Store} {A : Around} {E : Value → Shared → Prop} {s : Shared}
theorem intsInv {a : AV} {l : List AV} {xs : List Int} (e : intsOf (a :: l) = some xs) : ∃ i ys, a = .int i ∧ intsOf l = some ys ∧ i :: ys = xs := by
  cases a with
  | int i => obtain ⟨ys, h, e⟩ := mapS e; exact ⟨i, ys, rfl, h, e⟩
  | _ => exact no e
theorem VRs.ints {vs : List Value} {l : List AV} {xs : List Int} (x : VRs B h φ vs l) (e : intsOf l = some xs) : IntsAre vs xs :=
  VRs.ind (P := fun vs l => ∀ {xs : List Int}, intsOf l = some xs → IntsAre vs xs) (fun e => by cases e; exact .nil) (fun hv zz ih xs e => by
    obtain ⟨i, ys, rfl, hy, rfl⟩ := intsInv e
    obtain ⟨t, rfl⟩ := hv.inv
    exact .cons _ _ (ih hy)) x e
theorem VRs.of_ints {vs : List Value} {xs : List Int} (x : IntsAre vs xs) : VRs B h φ vs (xs.map .int) := by
  induction x with
  | nil => exact .nil
  | cons n t _ r => exact .cons (.int n t) r
theorem intsOf_length : ∀ {l : List AV} {xs : List Int}, intsOf l = some xs → xs.length = l.length := fun {l} => by
  induction l with
  | nil => intro xs e; cases e; rfl
  | cons a r ih => intro xs e; obtain ⟨i, ys, rfl, hy, rfl⟩ := intsInv e; exact congrArg (· + 1) (ih hy)
theorem sortedOk {v : Value} {xs : List Int} {Q : Value → Shared → Prop} (h64 : xs.length < 64) (S : SR B s.heap φ σ)
    (hc : ∀ Q' : List Value → Shared → Prop, (∀ h' tk vs, (∀ b o, s.heap.get? b = some o → h'.get? b = some o) → IntsAre vs xs → Q' vs { s with heap := h', toks := tk }) → wpAny (model B.prog B.w) A.in1 (collect v) Q' E s)
    (r : Ret B s φ (σ ++ [.list ((sortI xs).map .int)]) Q (.cell σ.length)) : wpAny (model B.prog B.w) A (call (.builtin "sorted") [v]) Q E s := by
  refine Calls.call_function_entry kind_sorted plain_sorted entry_sorted (args_sorted1 _) ?_
  unfold Builtin.«sorted»
  refine wpAny_bind (m := checkCount "sorted" 1 1 _) (wpAny_pure ?_)
  refine wpAny_bind (hc _ fun h₁ tk₁ vs k₁ hI => ?_)
  have hlen := hI.length
  refine wpAny_bind (wpAny_newList ?_ (by rw [sizeLine_eq]; exact (lin [_, _] [.eq (.v 0) (.v 1), .lt (.v 1) (.n 64)] (.v 0) (.n 16777216) (.refl true) hlen h64)))
  have ho : (h₁.push (seqObj "list" vs.toArray 0)).get? h₁.objs.size = some (seqObj "list" vs.toArray 0) := Heap.get?_push_size _ rfl
  refine wpAny_bind (wpAny_holding (wpAny_call_entry slot_list_sort ⟨_, ho, rfl⟩ entry_list_sort (list_sort_tree ho hI (by exact (linl [_, _] [.eq (.v 0) (.v 1), .lt (.v 1) (.n 64)] (.v 0) (.n 64) (.refl true) hlen h64)) fun out ns' a1 a2 a3 => ⟨_, rfl, ?_⟩) (args_list_sort _)))
  refine wpAny_pure ⟨_, rfl, ?_⟩
  obtain ⟨e, he⟩ := sortedHeap_at (out := out) ho
  have hnone : s.heap.get? h₁.objs.size = none := by
    cases q : s.heap.get? h₁.objs.size with
    | none => rfl
    | some o => exact absurd (Heap.lt_size (k₁ _ _ q)) (Nat.lt_irrefl _)
  have kall : ∀ b o, s.heap.get? b = some o → (sortedHeap (h₁.push (seqObj "list" vs.toArray 0)) h₁.objs.size vs out).get? b = some o := fun b o q => by
    have lt := Heap.lt_size (k₁ _ _ q)
    rw [sortedHeap_old (Nat.ne_of_lt lt) (by rw [Heap.size_push]; exact Nat.lt_succ_of_lt lt)]
    exact Heap.get?_push_of_some _ (k₁ _ _ q)
  have hns := sortI_eq a2 a3
  subst hns
  obtain ⟨S', st⟩ := S.push (p := (h₁.objs.size, h₁.objs.size)) (c := .list ((sortI xs).map .int)) hnone kall fun st => ⟨rfl, out.toList, ⟨e, by simpa [seqObj] using he⟩, VRs.of_ints a1, by
    rw [List.length_map, sortI_length]; unfold lim; exact (lin [_] [.lt (.v 0) (.n 64)] (.v 0) (.n 1048576) (.refl true) h64)⟩
  refine r _ _ tk₁ _ st S' (VR.cell (p := (h₁.objs.size, h₁.objs.size)) ?_)
  rw [← S.len]; simp
theorem appendOk {a c : AV} {u v : Value} {Q : Value → Shared → Prop} (e : appendV a c σ = some σ') (S : SR B s.heap φ σ) (hu : VR B s.heap φ u a) (hv : VR B s.heap φ v c) (r : Ret B s φ σ' Q .none) :
    wpAny (model B.prog B.w) A (call (.builtin "list.append") [u, v]) Q E s := by
  cases a with
  | cell i =>
      obtain ⟨l, hl, e⟩ := bindS e
      obtain ⟨hz, e⟩ := ifS e
      cases e
      obtain ⟨a1, vs1, n1, rfl, e2, g1, r1, s1⟩ := VR.list S hu hl
      refine wpAny_list_append_plain ⟨n1, g1⟩ (fun h' hl' hs => ?_) (by simp only [List.size_toArray, r1.length]; exact lim_line s1)
      obtain ⟨S', st⟩ := S.set (c := .list (l ++ [c])) e2 hs.extBut fun st => ⟨rfl, vs1 ++ [v], by rw [List.push_toArray] at hl'; exact hl', (r1.append (.cons hv .nil)).step S st, by rw [List.length_append]; exact hz⟩
      exact r _ _ s.toks _ st S' .none
  | _ => exact no e
theorem erase_at {l : Addr} {vs : List Value} {n j : Nat} (g : s.heap.get? l = some { cls := .type "list", data := .seq vs.toArray n }) :
    (s.heap.update l (Obj.mapSeq fun xs => xs.eraseIdxIfInBounds j)).PlainList l (vs.eraseIdx j).toArray := by
  have e := Heap.get?_update_self (Obj.mapSeq fun xs => xs.eraseIdxIfInBounds j) g (by simp [Obj.mapSeq, Obj.isFreed])
  simp only [Obj.mapSeq, List.eraseIdxIfInBounds_toArray] at e
  exact ⟨_, e⟩
theorem eraseIdx_last {α : Type} (l : List α) : l.eraseIdx (l.length - 1) = l.dropLast := by
  rw [List.eraseIdx_eq_take_drop_succ, List.dropLast_eq_take]
  cases l with
  | nil => rfl
  | cons a r => simp
theorem popOk {a c : AV} {u : Value} {Q : Value → Shared → Prop} (e : popV a σ = some (c, σ')) (S : SR B s.heap φ σ) (hu : VR B s.heap φ u a) (r : Ret B s φ σ' Q c) :
    wpAny (model B.prog B.w) A (call (.builtin "list.pop") [u]) Q E s := by
  cases a with
  | cell i =>
    obtain ⟨l, hl, e⟩ := bindS e
    obtain ⟨b, hb, e⟩ := mapS e
    cases e
    obtain ⟨a1, vs1, n1, rfl, e2, g1, r1, s1⟩ := VR.list S hu hl
    have hlen := r1.length
    have hb' : l[l.length - 1]? = some c := by rw [← List.getLast?_eq_getElem?]; exact hb
    obtain ⟨w, hw, rw'⟩ := r1.get hb'
    refine call_meets F.slot_list_pop ⟨_, g1, rfl⟩ F.entry_list_pop (F.args_list_pop_1 _) (MeetsSeq.list_pop_last a1 _ n1 w (by rw [List.size_toArray, hlen, List.getElem?_toArray]; exact hw) (by rw [List.size_toArray, hlen]; exact lim_line s1)) ⟨g1, ?_⟩
    obtain ⟨S', st⟩ := S.set (c := .list l.dropLast) e2 (Heap.SameBut.update s.heap a1 (Obj.mapSeq fun xs => xs.eraseIdxIfInBounds (vs1.toArray.size - 1))).extBut fun st =>
      ⟨rfl, vs1.eraseIdx (vs1.length - 1), erase_at g1, by rw [eraseIdx_last]; exact r1.dropLast.step S st, by rw [List.length_dropLast]; exact Nat.le_trans (Nat.sub_le _ _) s1⟩
    exact r _ _ s.toks _ st S' (rw'.step S st)
  | _ => exact no e
theorem fits_small {k : Int} (h : k.toNat < lim) (h0 : 0 ≤ k) : Builtin.List.listFitsIndex k = true := by
  unfold lim at h
  simp [Builtin.List.listFitsIndex]; omega
theorem popAtOk {a b c : AV} {u v : Value} {Q : Value → Shared → Prop} (e : popAtV a b σ = some (c, σ')) (S : SR B s.heap φ σ) (hu : VR B s.heap φ u a) (hv : VR B s.heap φ v b) (r : Ret B s φ σ' Q c) :
    wpAny (model B.prog B.w) A (call (.builtin "list.pop") [u, v]) Q E s := by
  cases a with
  | cell i => cases b with
    | int k =>
      obtain ⟨t, rfl⟩ := hv.inv
      obtain ⟨l, hl, e⟩ := bindS e
      obtain ⟨h0, e⟩ := ifS e
      obtain ⟨b, hb, e⟩ := mapS e
      cases e
      obtain ⟨a1, vs1, n1, rfl, e2, g1, r1, s1⟩ := VR.list S hu hl
      have hlen := r1.length
      obtain ⟨w, hw, rw'⟩ := r1.get hb
      have hk : k.toNat < l.length := (List.getElem?_eq_some_iff.mp hb).1
      refine call_meets F.slot_list_pop ⟨_, g1, rfl⟩ F.entry_list_pop (F.args_list_pop_2 _ _) (MeetsSeq.list_pop_at a1 _ n1 k t k.toNat w (fits_small (Nat.lt_of_lt_of_le hk s1) h0) ?_ (by rw [List.getElem?_toArray]; exact hw) (by rw [List.size_toArray, hlen]; exact lim_line s1)) ⟨g1, ?_⟩
      · unfold seqIndex?
        rw [if_neg (Int.not_lt.mpr h0), List.size_toArray, hlen]
        exact if_pos (Bool.and_eq_true_iff.mpr ⟨decide_eq_true h0, decide_eq_true ((Int.toNat_lt h0).mp hk)⟩)
      · obtain ⟨S', st⟩ := S.set (c := .list (l.eraseIdx k.toNat)) e2 (Heap.SameBut.update s.heap a1 (Obj.mapSeq fun xs => xs.eraseIdxIfInBounds k.toNat)).extBut fun st =>
          ⟨rfl, vs1.eraseIdx k.toNat, erase_at g1, (r1.eraseIdx _).step S st, Nat.le_trans (List.length_eraseIdx_le l k.toNat) s1⟩
        exact r _ _ s.toks _ st S' (rw'.step S st)
    | _ => exact no e
  | _ => exact no e
end
end Mine
end
-- S8
section
namespace Mine
open PySem PySem.W PySem.Calls PyProof.Rows PySem.SeqAt
section
variable {B : Base} {h : Heap} {φ φ' : Links} {σ σ' : Store} {A : Around} {E : Value → Shared → Prop} {s : Shared}
theorem script_at (G : Good B) (S : SR B h φ σ) : ∃ vs, h.IsList B.sa (List.toArray vs) ∧ IntsAre vs B.ns := by
  obtain ⟨vs, hl, hi⟩ := G.script
  exact ⟨vs, hl.at fun o e => S.base _ _ e, hi⟩
theorem ret_newlist {Q : Value → Shared → Prop} {l : List AV} {vs : List Value} {h' : Heap} {a n tk : Nat} (S : SR B s.heap φ σ) (r : Ret B s φ (σ ++ [.list l]) Q (.cell σ.length)) (k : ∀ b o, s.heap.get? b = some o → h'.get? b = some o)
    (hn : s.heap.get? a = none) (hg : h'.get? a = some { cls := .type "list", data := .seq vs.toArray n }) (x : Step φ (φ ++ [(a, a)]) s.heap h' → VRs B h' (φ ++ [(a, a)]) vs l) (hl : l.length ≤ lim) :
    Q (.ref a) { s with heap := h', toks := tk } := by
  obtain ⟨S', st⟩ := S.push (p := (a, a)) (c := .list l) hn k fun st => ⟨rfl, vs, ⟨n, hg⟩, x st, hl⟩
  refine r _ _ tk _ st S' (VR.cell (p := (a, a)) ?_)
  rw [← S.len]; simp
theorem sys_ne (G : Good B) (S : SR B h φ σ) {i : Nat} {d : Addr} (e : φ[i]? = some (d, d)) : (d == sysModules) = false := by
  rw [beq_eq_false_iff_ne]
  rintro rfl
  obtain ⟨o, ho⟩ := G.sys
  exact no ((S.fresh _ (List.mem_of_getElem? e)).symm.trans ho)
theorem keys_are {kvs : List (Int × Value)} {l : List (Int × AV)} (r : KRs B h φ kvs l) : ∀ {vs : List Value}, vs.length = kvs.length → (∀ (j : Nat) (v : Value), vs[j]? = some v → ∃ k x, kvs[j]? = some (k, x) ∧ (intKind B.prog B.w).is k v = true) → IntsAre vs (l.map (·.1)) := by
  induction r with
  | nil => intro vs hl _; cases vs with
    | nil => exact .nil
    | cons _ _ => cases hl
  | cons hv' r ih => intro vs hl hv; cases vs with
    | nil => cases hl
    | cons v vs =>
      obtain ⟨k, x, hx, hk⟩ := hv 0 v rfl
      cases hx
      obtain ⟨t, rfl⟩ := Value.isInt_shape hk
      exact .cons _ t (ih (Nat.succ.inj hl) fun j v hj => hv (j + 1) v hj)
theorem lim_pow {n : Nat} (h : n ≤ lim) : (n : Int) < 2 ^ 63 := by unfold lim at h; omega
theorem sortInv {i : Nat} {c : AV} (e : biV B.ns .sorted (.cell i) σ = some (c, σ')) : (∃ l xs, listAt σ i = some l ∧ intsOf l = some xs ∧ xs.length < 64 ∧ newCell (.list ((sortI xs).map .int)) σ = (c, σ')) ∨ ∃ l, dictAt σ i = some l ∧ l.length < 64 ∧ newCell (.list ((sortI (l.map (·.1))).map .int)) σ = (c, σ') := by
  unfold listAt dictAt
  dsimp only [biV] at e
  generalize σ[i]? = o at e
  cases o with
  | none => exact no e
  | some d => cases d with
    | list l => obtain ⟨xs, hx, e⟩ := bindS e; obtain ⟨h, e⟩ := ifS e; exact .inl ⟨l, xs, rfl, hx, h, Option.some.inj e⟩
    | dict l => obtain ⟨h, e⟩ := ifS e; exact .inr ⟨l, rfl, h, Option.some.inj e⟩
    | obj _ _ => exact no e
theorem biOk {b : BI} {n : Nat} {a c : AV} {u : Value} {Q : Value → Shared → Prop} (G : Good B) (ok : AOk A n) (e : biV B.ns b a σ = some (c, σ')) (S : SR B s.heap φ σ) (hu : VR B s.heap φ u a) (r : Ret B s φ σ' Q c) :
    wpAny (model B.prog B.w) A (call b.value [u]) Q E s := by
  cases b with
  | len => cases a with
    | tup l =>
      obtain ⟨a1, vs1, k1, rfl, h1, r1, s1⟩ := hu.inv
      cases e
      refine P.len_tuple h1 (by rw [List.size_toArray, r1.length]; exact Int.not_le.mpr (lim_pow s1)) ?_
      rw [List.size_toArray, r1.length]
      exact r.tok S (.int _ _) _
    | cell i =>
      obtain ⟨l, hl, e⟩ := mapS e
      cases e
      obtain ⟨a1, vs1, n1, rfl, e2, g1, r1, s1⟩ := VR.list S hu hl
      refine Calls.call_len_list ⟨_, g1, rfl, _, rfl⟩ (by rw [List.size_toArray, r1.length]; exact lim_pow s1) ?_
      rw [List.size_toArray, r1.length]
      exact r.tok S (.int _ _) _
    | _ => exact no e
  | int => cases a with
    | int i =>
      obtain ⟨t, rfl⟩ := hu.inv
      cases e
      exact call_int_int (r.tok S (.int _ _) s.toks)
    | _ => exact no e
  | list => cases a with
    | tup l =>
      obtain ⟨a1, vs1, k1, rfl, h1, r1, s1⟩ := hu.inv
      cases e
      exact call_list_seq a1 (.inr rfl) h1 rfl rfl (fun h' c' hk hg => ret_newlist (tk := s.toks) S r hk (get_size_none _) hg (fun st => r1.step S st) s1) (by rw [List.size_toArray, r1.length]; exact lim_line s1)
    | script =>
      obtain rfl := hu.inv
      cases e
      obtain ⟨vs, ⟨o, ho, hc, n, hd⟩, hi⟩ := script_at G S
      exact call_list_seq B.sa (.inl rfl) ho hc hd (fun h' c' hk hg => ret_newlist (tk := s.toks) S r hk (get_size_none _) hg (fun st => VRs.of_ints hi) (by rw [List.length_map]; exact G.short)) (by rw [List.size_toArray, hi.length]; exact lim_line G.short)
    | _ => exact no e
  | tuple => cases a with
    | cell i =>
      obtain ⟨l, hl, e⟩ := mapS e
      cases e
      obtain ⟨a1, vs1, n1, rfl, e2, g1, r1, s1⟩ := VR.list S hu hl
      refine call_tuple_list ⟨_, g1, rfl, _, rfl⟩ (fun h' hk => ?_) (by rw [List.size_toArray, r1.length]; exact lim_line s1)
      have k2 : ∀ b o, s.heap.get? b = some o → (h'.push { cls := .type "tuple", data := .seq vs1.toArray }).get? b = some o := fun b o q => Heap.get?_push_of_some _ (hk b o q)
      exact r _ _ s.toks φ (.of_grow k2) (S.grow k2) (.tup (Heap.get?_push_size _ rfl) (r1.step S (.of_grow k2)) s1)
    | _ => exact no e
  | sorted => cases a with
    | tup l =>
      obtain ⟨a1, vs1, k1, rfl, h1, r1, s1⟩ := hu.inv
      obtain ⟨xs, hx, e⟩ := bindS e
      obtain ⟨h64, e⟩ := ifS e
      cases e
      refine sortedOk h64 S (fun Q' hq => ?_) r
      exact wpAny_collect_seq a1 (.inr rfl) h1 rfl rfl (fun h' hk => hq h' s.toks _ hk (r1.ints hx)) (by rw [List.size_toArray, r1.length]; exact lim_line s1)
    | cell i =>
      rcases sortInv e with ⟨l, xs, hl, hx, h64, e⟩ | ⟨l, hl, h64, e⟩
      · cases e
        obtain ⟨a1, vs1, n1, rfl, e2, g1, r1, s1⟩ := VR.list S hu hl
        refine sortedOk h64 S (fun Q' hq => ?_) r
        exact wpAny_collect_seq a1 (.inl rfl) g1 rfl rfl (fun h' hk => hq h' s.toks _ hk (r1.ints hx)) (by rw [List.size_toArray, r1.length]; exact lim_line s1)
      · cases e
        obtain ⟨d, kvs, rfl, e2, e3, e4, e5⟩ := VR.dict S hu hl
        refine sortedOk (by rw [List.length_map]; exact h64) S (fun Q' hq => ?_) r
        obtain ⟨ep, hat⟩ := e3.dictAt
        refine kdu_collect (kdl_dict (knd := intKind B.prog B.w) (kvs := kvs) (ep := ep) (sys_ne G S e2)) ok.1 hat (by rw [e4.length]; exact lim_line e5) fun h' tk acc hk hacc => hq h' tk _ hk ?_
        exact keys_are e4 (by rw [Array.length_toList]; exact hacc.1) fun j v hj => hacc.2 j v (by rw [← Array.getElem?_toList]; exact hj)
    | _ => exact no e
  | _ => exact no e
theorem le_ab {a : Int} {k : Nat} (h : a.natAbs ≤ k) : a ≤ k := Int.le_trans Int.le_natAbs (Int.ofNat_le.mpr h)
theorem ge_ab {a : Int} {k : Nat} (h : a.natAbs ≤ k) : -(k : Int) ≤ a := Int.neg_le_of_neg_le (le_ab (by rw [Int.natAbs_neg]; exact h))
theorem toNat_ab {a : Int} {k : Nat} (h : a.natAbs ≤ k) : a.toNat ≤ k := Int.toNat_le.mpr (le_ab h)
theorem sub_ab {x y : Int} {k : Nat} (hx : x.natAbs ≤ k) (hy : y.natAbs ≤ k) : (y - x).natAbs ≤ k + k := Nat.le_trans (Int.natAbs_sub_le _ _) (Nat.add_le_add hy hx)
theorem fitsL {x : Int} (h : x.natAbs ≤ 1000000) : Builtin.Range.rangeFitsLong x = true :=
  Bool.and_eq_true_iff.mpr ⟨decide_eq_true (Int.le_trans (by decide) (ge_ab h)), decide_eq_true (Int.lt_of_le_of_lt (le_ab h) (by decide))⟩
theorem range_vals {h : Heap} {x : Int} : ∀ {k m : Nat} {vs : List Value}, vs.length = k → (∀ (j : Nat) (w : Value), vs[j]? = some w → ∃ t, w = .int (x + ((m + j : Nat) : Int)) t) → VRs B h φ vs ((List.range k).map fun (j : Nat) => AV.int (x + ((m + j : Nat) : Int))) := fun {k} => by
  induction k with
  | zero => intro m vs hl _; cases vs with
    | nil => exact .nil
    | cons _ _ => cases hl
  | succ k ih => intro m vs hl hv; cases vs with
    | nil => cases hl
    | cons w vs =>
      obtain ⟨t, rfl⟩ := hv 0 w rfl
      rw [List.range_succ_eq_map, List.map_cons, List.map_map]
      refine .cons (.int _ _) ?_
      have := ih (m := m + 1) (Nat.succ.inj hl) fun j w hj => by
        obtain ⟨t, ht⟩ := hv (j + 1) w hj
        exact ⟨t, by rw [Nat.add_right_comm]; exact ht⟩
      have e : (fun (j : Nat) => AV.int (x + ((m + j : Nat) : Int))) ∘ Nat.succ = fun (j : Nat) => AV.int (x + ((m + 1 + j : Nat) : Int)) := funext fun j => by
        rw [Nat.add_right_comm]; rfl
      rw [e]; exact this
theorem rangeListOk {n : Nat} {x y : Int} {a : Addr} {t u v : Tok} {Q : Value → Shared → Prop} (ok : AOk A n) (hx : x.natAbs ≤ 500000) (hy : y.natAbs ≤ 500000) (S : SR B s.heap φ σ) (hr : IsRange s.heap a x y 1 t u v) (r : Ret B s φ (σ ++ [.list (rangeI x y)]) Q (.cell σ.length)) :
    wpAny (model B.prog B.w) A (call (.type "list") [.ref a]) Q E s := by
  have hn := rangeSize_nat x y
  have hz := sub_ab hx hy
  have hz' : (y - x).toNat ≤ lim := Nat.le_trans (toNat_ab hz) (by decide)
  refine call_list_range ok.1 hr ?_ hn (Nat.le_trans hz' (by decide)) fun h' tk acc c' hk hg hacc => ?_
  · unfold Builtin.Range.small
    rw [hn, fitsL (Nat.le_trans hx (by decide)), fitsL (Nat.le_trans hy (by decide)), fitsL (Nat.le_trans (Nat.le_of_eq (Int.natAbs_natCast _)) (toNat_ab hz))]
    exact Bool.or_eq_true_iff.mpr (.inr (fitsL (x := y + (1 - 1)) (by rw [Int.sub_self, Int.add_zero]; exact Nat.le_trans hy (by decide))))
  · have vals : VRs B h' (φ ++ [(s.heap.objs.size, s.heap.objs.size)]) acc.toList (rangeI x y) := by
      have := range_vals (B := B) (h := h') (φ := φ ++ [(s.heap.objs.size, s.heap.objs.size)]) (x := x) (k := (y - x).toNat) (m := 0) (vs := acc.toList) (by rw [Array.length_toList]; exact hacc.1) fun j w hj => by
        obtain ⟨t, ht⟩ := hacc.2 j w (by rw [← Array.getElem?_toList]; exact hj)
        exact ⟨t, by rw [ht, Nat.zero_add, Int.mul_one]⟩
      simp only [Nat.zero_add] at this
      exact this
    refine ret_newlist (vs := acc.toList) S r hk (get_size_none _) hg (fun zz => vals) ?_
    unfold rangeI
    rw [List.length_map, List.length_range]; exact hz'
end
end Mine
end
-- S9
section
namespace Mine
open PySem PySem.W PySem.Calls PyProof.Rows PySem.SeqAt
section
variable {prog : Program} {w : World} {A : Around} {E : Value → Shared → Prop} {s : Shared}
theorem applied_last {sl : Addr} {n : Nat} {u : Tok} {Q : Int × Int × Nat → Shared → Prop} (hs : s.heap.IsSliceOf sl .none (.int (-1) u) .none) (hn : 1 ≤ n) (h : Q (0, 1, n - 1) s) :
    wpAny (model prog w) A (Builtin.Slice.sliceApplied (.ref sl) (pure (n : Int))) Q E s := by
  obtain ⟨os, hos, hcs, hds⟩ := id hs
  unfold Builtin.Slice.sliceApplied Builtin.Slice.sliceFields
  refine wpAny_bind (wpAny_bind (wpAny_field hos hds (x := .none) rfl (wpAny_bind (wpAny_field hos hds (x := .int (-1) u) rfl (wpAny_bind (wpAny_field hos hds (x := .none) rfl (wpAny_pure ?_)))))))
  refine wpAny_bind (slicePart_none ?_)
  show wpAny _ _ (if ((1 : Int) == 0) = true then _ else _) _ _ s
  rw [if_neg (by decide)]
  refine wpAny_bind (slicePart_none (wpAny_bind (slicePart_int (wpAny_bind (wpAny_pure ?_)))))
  show wpAny _ _ (match Builtin.Slice.sliceAdjust none (some (-1)) 1 (n : Int) with | (lo, hi) => pure (lo, (1 : Int), Builtin.Slice.slicePlaces lo hi 1)) _ _ s
  have e : Builtin.Slice.sliceAdjust none (some (-1)) 1 (n : Int) = (0, (n : Int) - 1) := by
    show ((0 : Int), max (-1 + (n : Int)) 0) = _
    rw [Int.add_comm]
    exact congrArg (Prod.mk (0 : Int)) (Int.max_eq_left (Int.sub_nonneg_of_le (Int.ofNat_le.mpr hn)))
  rw [e]
  have e2 : Builtin.Slice.slicePlaces 0 ((n : Int) - 1) 1 = n - 1 := by
    obtain ⟨m, rfl⟩ : ∃ m, n = m + 1 := ex_add hn
    rw [show ((m + 1 : Nat) : Int) - 1 = m from Int.add_sub_cancel (m : Int) 1]
    cases m with
    | zero => rfl
    | succ k =>
      show ((if (0 : Int) < ((k + 1 : Nat) : Int) then (((k + 1 : Nat) : Int) - 0 - 1) / 1 + 1 else 0) : Int).toNat = k + 1
      rw [if_pos (show (0 : Int) < ((k + 1 : Nat) : Int) from Int.ofNat_lt.mpr (Nat.succ_pos k)), Int.sub_zero, Int.ediv_one, show ((k + 1 : Nat) : Int) - 1 = k from Int.add_sub_cancel (k : Int) 1]; rfl
  show wpAny _ _ (pure ((0 : Int), (1 : Int), Builtin.Slice.slicePlaces 0 ((n : Int) - 1) 1)) _ _ s
  rw [e2]
  exact wpAny_pure h
theorem getItem_tuple_last {t sl : Addr} {items : Array Value} {u : Tok} {Q : Value → Shared → Prop} (ht : IsTup s.heap t items) (hs : s.heap.IsSliceOf sl .none (.int (-1) u) .none) (hn : 1 ≤ items.size)
    (h : Q (.ref s.heap.objs.size) { s with heap := s.heap.push { cls := .type "tuple", data := .seq (items.toList.take (items.size - 1)).toArray } })
    (hsz : items.size ≤ sizeLine) : wpAny (model prog w) A (getItem (.ref t) (.ref sl)) Q E s := by
  have hdrop : sizeOk (.seq (items.toList.take (items.size - 1)).toArray) := by
    show (items.toList.take (items.size - 1)).toArray.size ≤ sizeLine
    rw [List.size_toArray, List.length_take, Array.length_toList]
    exact (Nat.le_trans (Nat.min_le_right _ _) hsz)
  obtain ⟨os, hos, hcs, hds⟩ := id hs
  have hTs : s.TypeIs (.ref sl) "slice" := ⟨os, hos, hcs⟩
  unfold getItem
  try with_reducible refine wpAny_holding ?_
  first | refine wpAny_bind (wpAny_pure ?_) | skip
  refine wpAny_bind (wpAny_sequenceKey ht.typeIs (by decide) ?_)
  refine wpAny_bind (wpAny_callSpecial?_slot (name := Str.ofString "__getitem__") ht.typeIs PyProof.Rows.slot_tuple_getitem
    (wpAny_call_entry PyProof.Rows.slot_tuple_getitem ht.typeIs PyProof.Rows.entry_tuple_getitem ?_ (PyProof.Rows.args_tuple_getitem _ _)))
  show wpAny _ _ (Builtin.Tuple.tupleItemsOf (.ref t) >>= _) _ _ s
  refine wpAny_bind (tupleItemsOf_ ht ?_)
  refine wpAny_bind (wpAny_typeOf hTs ?_)
  rw [if_pos (by decide)]
  refine wpAny_bind (applied_last hs hn ?_)
  have hno : ¬ (((0 : Int) == 0 && (1 : Int) == 1 && (items.size - 1) == items.size) = true) := by
    have : ((items.size - 1) == items.size) = false := by rw [beq_eq_false_iff_ne]; omega
    rw [this]; simp
  show wpAny _ _ (if ((0 : Int) == 0 && (1 : Int) == 1 && (items.size - 1) == items.size) = true then _ else _) _ _ s
  have e : ((List.range (items.size - 1)).filterMap fun (k : Nat) => items[((0 : Int) + (k : Int) * 1).toNat]?).toArray = (items.toList.take (items.size - 1)).toArray := by
    have e : (fun (k : Nat) => items[((0 : Int) + (k : Int) * 1).toNat]?) = fun k => items[0 + k]? := by
      funext k
      have : ((0 : Int) + (k : Int) * 1).toNat = 0 + k := by omega
      rw [this]
    rw [e]
    have := pick_run items 0 (items.size - 1)
    rw [List.filterMap_map] at this
    have e2 : ((fun x => items[x]?) ∘ fun x => 0 + x) = fun k => items[0 + k]? := rfl
    rw [e2] at this
    rw [this]; rfl
  rw [if_neg hno, e]
  first
    | exact wpAny_bind (m := Builtin.Tuple.tupleExact _) (wpAny_newObj_type (wpAny_pure ⟨_, rfl, wpAny_pure h⟩) hdrop)
    | exact wpAny_bind (m := Builtin.Tuple.tupleExact _) (wpAny_newObj_type (wpAny_bind (wpAny_pure (wpAny_pure ⟨_, rfl, wpAny_pure h⟩))) hdrop)
    | exact wpAny_bind (wpAny_bind (m := Builtin.Tuple.tupleExact _) (wpAny_newObj_type (wpAny_pure (wpAny_pure ⟨_, rfl, wpAny_pure h⟩)) hdrop))
    | exact wpAny_bind (wpAny_bind (m := Builtin.Tuple.tupleExact _) (wpAny_newObj_type (wpAny_pure ⟨_, rfl, wpAny_pure h⟩) hdrop))
theorem subTail {value slice : Expr} {o i : Value} {T id : String} {Q : Value → Shared → Prop} (hT : s.TypeIs o T) (hl : typeLookup (.type T) "__getitem__" = pure (some (.builtin id))) (h : wpAny (model prog w) A (getItem o i) Q E s) :
    wpAny (model prog w) A (subscriptTail value slice o i) Q E s := by
  unfold subscriptTail
  refine wpAny_bind ?_
  rw [getitemInPython_of_ne hT.not_modules]
  refine wpAny_bind (wpAny_specialOf hT hl ?_)
  have fin : wpAny (model prog w) A (subscripted slice false o i) (fun r s₃ => wpAny (model prog w) A (letTemporaryGo value o r >>= fun zz => pure r) Q E s₃) E s := by
    have hs : ∃ vs, subscripted slice false o i = operate vs (getItem o i) := by
      cases slice with
      | Slice a b c p => cases c <;> exact ⟨_, rfl⟩
      | _ => exact ⟨_, rfl⟩
    obtain ⟨vs, hs⟩ := hs
    rw [hs]
    exact wpAny_operating (wpAny_mono h (fun r s₃ h₃ => wpAny_bind (wpAny_letTemporaryGo (wpAny_pure h₃))) fun zz zz x => x)
  first
    | exact wpAny_pure (wpAny_bind fin)
    | exact wpAny_bind (wpAny_pure (wpAny_bind fin))
    | exact wpAny_bind fin
end
section
variable {B : Base} {h : Heap} {φ φ' : Links} {σ σ' : Store} {A : Around} {E : Value → Shared → Prop} {s : Shared}
theorem cutV_pick {lo hi : Option Int} {l : List AV} {vs : List Value} {r : List AV} (e : cutV lo hi l = some r) (x : VRs B h φ vs l) : VRs B h φ (slicePick vs.toArray lo hi none).toList r ∧ r.length ≤ l.length := by
  cases lo with
  | none => cases hi with
    | none => exact no e
    | some k =>
      by_cases hk : 0 ≤ k
      · cases (if_pos hk).symm.trans e
        obtain ⟨b, rfl⟩ := Int.eq_ofNat_of_zero_le hk
        rw [slicePick_upto' vs.toArray b]
        exact ⟨x.take b, List.length_take_le' ..⟩
      · obtain ⟨rfl, e⟩ := ifS ((if_neg hk).symm.trans e)
        cases e
        have := slicePick_butLast vs.toArray 1 (Nat.le_refl 1)
        rw [show (-((1 : Nat) : Int)) = (-1 : Int) from rfl] at this
        rw [this]
        refine ⟨?_, by rw [List.length_dropLast]; exact Nat.sub_le ..⟩
        have y := x.dropLast
        rw [List.dropLast_eq_take] at y
        exact y
  | some k => cases hi with
    | some _ => exact no e
    | none =>
      obtain ⟨hk, e⟩ := ifS e
      cases e
      obtain ⟨b, rfl⟩ := Int.eq_ofNat_of_zero_le hk
      rw [slicePick_from' vs.toArray b]
      exact ⟨x.drop b, by rw [List.length_drop]; exact Nat.sub_le ..⟩
theorem isPart0 {v : Value} (x : IsPart v none) : v = .none := by cases x; rfl
theorem isPartS {v : Value} {k : Int} (x : IsPart v (some k)) : ∃ t, v = .int k t := by cases x; exact ⟨_, rfl⟩
theorem sliceOk {a c : AV} {u vl vu : Value} {lo hi : Option Int} {sl : Addr} {Q : Value → Shared → Prop} (e : sliceV a lo hi σ = some (c, σ')) (S : SR B s.heap φ σ) (hu : VR B s.heap φ u a) (hs : s.heap.IsSliceOf sl vl vu .none)
    (pl : IsPart vl lo) (pu : IsPart vu hi) (r : Ret B s φ σ' Q c) : wpAny (model B.prog B.w) A (getItem u (.ref sl)) Q E s := by
  cases a with
  | tup l1 =>
    obtain ⟨a1, vs1, k1, rfl, h1, r1, s1⟩ := hu.inv
    have hlen := r1.length
    have it : IsTup s.heap a1 vs1.toArray := ⟨_, h1, rfl, _, rfl⟩
    cases lo with
    | some k => cases hi with
      | some _ => exact no e
      | none =>
        obtain ⟨hk, e⟩ := ifS e
        cases e
        obtain ⟨t, rfl⟩ := isPartS pl
        obtain rfl := isPart0 pu
        obtain ⟨b, rfl⟩ := Int.eq_ofNat_of_zero_le (Int.le_trans (by decide) hk.1)
        refine getItem_tuple_from (a := b) it hs (Int.ofNat_le.mp hk.1) (by rw [List.size_toArray, hlen]; exact Int.ofNat_le.mp hk.2) ?_ (by rw [List.size_toArray, hlen]; exact lim_line s1)
        exact ret_tup (tk := s.toks) S r (r1.drop b) (by rw [List.length_drop]; exact Nat.le_trans (Nat.sub_le ..) s1)
    | none => cases hi with
      | none => exact no e
      | some k =>
        obtain ⟨⟨hk, hne⟩, e2⟩ := ifS e
        clear e
        subst hk
        cases e2
        obtain ⟨t, rfl⟩ := isPartS pu
        obtain rfl := isPart0 pl
        refine getItem_tuple_last it hs (by rw [List.size_toArray, hlen]; exact List.length_pos_iff.mpr hne) ?_ (by rw [List.size_toArray, hlen]; exact lim_line s1)
        have y := r1.dropLast
        rw [List.dropLast_eq_take] at y
        exact ret_tup (tk := s.toks) S r y (by rw [List.length_dropLast]; exact Nat.le_trans (Nat.sub_le ..) s1)
  | cell i =>
    obtain ⟨l, hl, e⟩ := bindS e
    obtain ⟨r', hr, e⟩ := mapS e
    cases e
    obtain ⟨a1, vs1, n1, rfl, e2, g1, r1, s1⟩ := VR.list S hu hl
    obtain ⟨x1, x2⟩ := cutV_pick hr r1
    refine wpAny_getItem_list_slice ⟨_, g1, rfl, _, rfl⟩ hs pl pu .none nofun ?_ (by rw [List.size_toArray, r1.length]; exact lim_line s1)
    exact ret_list (tk := s.toks) S r x1 (Nat.le_trans x2 s1)
  | _ => exact no e
theorem VR.getslot (S : SR B s.heap φ σ) {a : AV} {u : Value} (hu : VR B s.heap φ u a) (hk : (∃ l, a = .tup l) ∨ ∃ i, a = .cell i ∧ ((∃ l, σ[i]? = some (.list l)) ∨ ∃ l, σ[i]? = some (.dict l))) :
    ∃ T id, s.TypeIs u T ∧ typeLookup (.type T) "__getitem__" = pure (some (.builtin id)) := by
  rcases hk with ⟨l, rfl⟩ | ⟨i, rfl, ⟨l, hl⟩ | ⟨l, hl⟩⟩
  · obtain ⟨a1, vs1, k1, rfl, h1, r1, s1⟩ := hu.inv
    exact ⟨"tuple", _, ⟨_, h1, rfl⟩, F.slot_tuple_getitem.lookup⟩
  · obtain ⟨a1, vs1, n1, rfl, e2, g1, r1, s1⟩ := VR.list S hu (by unfold listAt; rw [hl])
    exact ⟨"list", _, ⟨_, g1, rfl⟩, list_getitem_lookup⟩
  · obtain ⟨d, kvs, rfl, e2, e3, e4, e5⟩ := VR.dict S hu (by unfold dictAt; rw [hl])
    exact ⟨"dict", _, e3.typeIs, slot_dict_getitem.lookup⟩
end
end Mine
end
-- RV
section
open PySem PySem.W PySem.Calls PyProof.Rows
namespace Mine
section
open PySem.F
theorem owner_rvd : Manifest.owners.lookup (String.ofList ['d', 'e', 's', 'r', 'e', 'v', 'e', 'r'].reverse) = Manifest.owners.lookup (String.ofList ['d', 'e', 's', 'r', 'e', 'v', 'e', 'r'].reverse) := rfl
theorem slot_rvd_next : Slot "reversed" "__next__" "reversed.__next__" :=
  .of (owner := "reversed") (n := "__next__") (by rw [typeLookup_type, builtinLookup_eq_fast]; kernel_rfl) (by decide +kernel) (by decide +kernel) (by decide +kernel)
    (by first | exact .inl (by decide +kernel) | exact .inr (by decide +kernel)) (by rw [isSubtype_type]; kernel_rfl)
theorem entry_rvd_next : entryFor table "reversed.__next__" = some Builtin.«reversed.__next__» := entryFor_of_tree (by kernel_rfl)
theorem args_rvd_next_1 (a : Value) : argsOk "reversed.__next__" ⟨[a], []⟩ := by
  unfold argsOk; kernel_rfl
theorem slot_rvd_iter : Slot "reversed" "__iter__" "reversed.__iter__" :=
  .of (owner := "reversed") (n := "__iter__") (by rw [typeLookup_type, builtinLookup_eq_fast]; kernel_rfl) (by decide +kernel) (by decide +kernel) (by decide +kernel)
    (by first | exact .inl (by decide +kernel) | exact .inr (by decide +kernel)) (by rw [isSubtype_type]; kernel_rfl)
theorem args_rvd_iter_1 (a : Value) : argsOk "reversed.__iter__" ⟨[a], []⟩ := by
  unfold argsOk; kernel_rfl
theorem entry_rvd_iter : entryFor table "reversed.__iter__" = some Builtin.«dict_keyiterator.__iter__» :=
  entryFor_alias (id' := "dict_keyiterator.__iter__") (by kernel_rfl) (by first | rfl | decide +kernel | (unfold String.splitOn; simp +decide [String.splitOnAux])) (by decide +kernel) (by kernel_rfl)
theorem tup_norev : typeLookup (.type "tuple") "__reversed__" = pure none := by rw [typeLookup_type, builtinLookup_eq_fast]; kernel_rfl
theorem sub_tup_dict : isSubtype (.type "tuple") (.type "dict") = pure false := by rw [isSubtype_type]; kernel_rfl
end
end Mine
namespace Mine
section
open PySem.F
theorem called_rvd : TypeCalled "reversed" "reversed.__new__" "object.__init__" :=
  ⟨by decide +kernel, create_reversed, ⟨_, _, mro_reversed⟩, made_reversed, plain_reversed_new, sub_reversed_self,
   .of (owner := "object") (n := "__init__") (by rw [typeLookup_type, builtinLookup_eq_fast]; kernel_rfl) (by decide +kernel) (by decide +kernel) (by decide +kernel)
    (by first | exact .inl (by decide +kernel) | exact .inr (by decide +kernel)) (by rw [isSubtype_type]; kernel_rfl)⟩
end
end Mine
namespace Mine
section
variable {prog : Program} {w : World} {A : Around} {E : Value → Shared → Prop} {s : Shared}
noncomputable def rvObj (t : Addr) : Obj := { cls := .type "reversed", data := .fields #[.ref t, rawInt (-1)] }
theorem code_rvd_new {t : Addr} {k : Nat} {Q₁ : Value → Shared → Prop} (ht : IsT s.heap t #[] k)
    (h : ∀ tk, Q₁ (.ref s.heap.objs.size) { s with heap := s.heap.push (rvObj t), toks := tk }) :
    codeAny (model prog w) A (.call (.builtin "reversed.__new__") ⟨[.type "reversed", .ref t], []⟩) (wants Q₁ E) s := by
  have hT : s.TypeIs (.ref t) "tuple" := ⟨_, ht, rfl⟩
  refine codeAny_call_builtin F.plain_reversed_new F.entry_reversed_new (wpAny_of_eq (F.newCall_reversed_1 _) ?_)
  unfold Builtin.«reversed.__new__»
  refine wpAny_bind (wpAny_of_eq (newClass_reversed _) ?_)
  try dsimp only
  refine wpAny_bind (wpAny_of_eq (a := ()) (by first | rfl | kernel_rfl) ?_)
  refine wpAny_bind (wpAny_of_eq (a := ()) (by first | rfl | kernel_rfl) ?_)
  try dsimp only
  refine wpAny_bind (wpAny_specialOf hT tup_norev ?_)
  try dsimp only
  have hl : ∀ (E' : Value → Shared → Prop) (Q : Value → Shared → Prop), Q (.int 0 (s.toks + 1)) { s with toks := s.toks + 1 + 1 } → wpAny (model prog w) A.in1 (call (.builtin "len") [.ref t]) Q E' s := fun E' Q hq => PySem.P.len_tuple (items := #[]) ht (by decide) hq
  refine wpAny_bind ?_
  show wpAny _ _ (isInstance (.ref t) (.type "dict") >>= _) _ _ s
  refine wpAny_bind (wpAny_isInstance hT sub_tup_dict ?_)
  show wpAny _ _ (specialOf (.ref t) "__getitem__" >>= _) _ _ s
  refine wpAny_bind (wpAny_specialOf hT F.slot_tuple_getitem.lookup ?_)
  refine wpAny_of_eq (a := true) rfl ?_
  show wpAny _ _ (call (.builtin "len") [.ref t] >>= _) _ _ s
  refine wpAny_bind (hl _ _ ?_)
  show wpAny _ _ (Builtin.SmallTypes.newRecord (Value.type "reversed") [Value.ref t, rawInt (0 - 1)] >>= _) _ _ _
  refine wpAny_bind ?_
  refine wpAny_newObj_type (T := "reversed") (data := .fields #[.ref t, rawInt (-1)]) ?_
  exact wpAny_pure (h _)
theorem call_rvd {t : Addr} {k : Nat} {Q : Value → Shared → Prop} (ht : IsT s.heap t #[] k)
    (h : ∀ tk, Q (.ref s.heap.objs.size) { s with heap := s.heap.push (rvObj t), toks := tk }) : wpAny (model prog w) A (call (.type "reversed") [.ref t]) Q E s := by
  refine callType_codes (Q₁ := fun obj s₁ => ∃ tk, obj = .ref s.heap.objs.size ∧ s₁ = { s with heap := s.heap.push (rvObj t), toks := tk }) called_rvd (F.typeCall_reversed_1 _) F.entry_object_init (code_rvd_new ht fun tk => ⟨tk, rfl, rfl⟩) ?_
  rintro obj s₁ ⟨tk, rfl, rfl⟩
  have hT : Shared.TypeIs { s with heap := s.heap.push (rvObj t), toks := tk } (.ref s.heap.objs.size) "reversed" := ⟨_, Heap.get?_push_size _ rfl, rfl⟩
  exact ⟨hT, F.args_object_init_2 _ _, object_init_meets called_rvd.init.lookup called_rvd.made (by decide) _ _ _ _ _ ⟨hT, rfl, h tk⟩⟩
theorem wpAny_pyIter_rvd {it t : Addr} {Q : Value → Shared → Prop} (hit : s.heap.get? it = some (rvObj t)) (h : Q (.ref it) s) : wpAny (model prog w) A (pyIter (.ref it)) Q E s := by
  have hT : s.TypeIs (.ref it) "reversed" := ⟨_, hit, rfl⟩
  refine wpAny_pyIter_slot hT slot_rvd_iter (wpAny_call_entry slot_rvd_iter hT entry_rvd_iter ?_ (args_rvd_iter_1 _))
  show wpAny _ _ (ret (.ref it)) _ _ s
  exact wpAny_pure ⟨_, rfl, "reversed", _, hT, slot_rvd_next.lookup, h⟩
theorem wpAny_pyNext_rvd {it t : Addr} {Q : Option Value → Shared → Prop} (hh : A.handled = none) (hit : s.heap.get? it = some (rvObj t))
    (hQ : ∀ h', Heap.ExtBut it s.heap h' → Q none { s with heap := h' }) : wpAny (model prog w) A (pyNext (.ref it)) Q E s := by
  have hT : s.TypeIs (.ref it) "reversed" := ⟨_, hit, rfl⟩
  unfold pyNext
  refine wpAny_bind (wpAny_attempt (wpAny_callSpecial?_slot (name := Str.ofString "__next__") hT slot_rvd_next
    (wpAny_call_entry slot_rvd_next hT entry_rvd_next ?_ (args_rvd_next_1 _))))
  unfold Builtin.«reversed.__next__»
  refine wpAny_bind (wpAny_of_eq (a := (Value.ref it, [])) rfl ?_)
  try dsimp only
  refine wpAny_bind (wpAny_field hit rfl (x := .ref t) rfl ?_)
  refine wpAny_bind (wpAny_field hit rfl (x := rawInt (-1)) rfl ?_)
  show wpAny _ _ (if (-1 : Int) < 0 then _ else _) _ _ s
  rw [if_pos (by decide)]
  refine wpAny_bind (wpAny_rule ?_)
  refine wpAny_bind ?_
  show wpAny _ _ (setField (.ref it) 1 (rawInt (-1)) >>= _) _ _ _
  refine wpAny_bind (wpAny_setField_rec hit (show 1 < 2 by decide) fun h1 g1 e1 => ?_)
  show wpAny _ _ (setField (.ref it) 0 .none) _ _ _
  refine wpAny_setField_rec g1 (show 0 < 2 by decide) fun h2 g2 e2 => ?_
  refine wpAny_bind ?_
  show wpAny _ _ (newExc (.type "StopIteration") [] >>= _) _ _ _
  refine wpAny_bind ?_
  simp only [newExc, newTuple]
  refine wpAny_bind (wpAny_newObj_type ?_ (by size_fits))
  refine wpAny_bind (m := firstArgMember _ _) (wpAny_of_eq (a := Value.none) (by first | rfl | (simp only [firstArgMember]; rfl)) ?_)
  refine wpAny_newObj_type ?_ (by size_fits)
  simp only [raiseNew]
  refine wpAny_bind (wpAny_handled ?_)
  first | rw [show A.in1.handled = none from hh] | rw [hh]
  refine wpAny_bind (wpAny_pure (wpAny_throw ?_))
  refine wpAny_bind (wpAny_isInstance (T := "StopIteration") (b := true) ⟨_, Heap.get?_push_size _ rfl, rfl⟩ isSubtype_stop ?_)
  exact wpAny_pure (hQ _ (((e1.trans e2).extBut.push _).push _))
end
end Mine
end
-- R10
section
namespace Mine
open PySem PySem.W PySem.Calls PyProof.Rows PySem.SeqAt
theorem starEach_cons {e : Expr} {r : List Expr} {env : PySem.Env} (h : ∀ v p, e ≠ .Starred v p) : starEach (e :: r) env = (false, eval e env) :: starEach r env := by
  cases e <;> first | rfl | exact absurd rfl (h _ _)
theorem findFn_mem {x : Str} : ∀ {l : List Fn} {f : Fn}, findFn x l = some f → f ∈ l ∧ x = Str.ofString f.title
  | [], f, e => by cases e
  | g :: l, f, e => by
    unfold findFn at e
    split at e
    · rename_i h; cases e; exact ⟨.head _, (seq_iff.mp h).symm⟩
    · obtain ⟨a, b⟩ := findFn_mem e; exact ⟨.tail _ a, b⟩
section
variable {B : Base} {n : Nat} {C : Handler} {env : PySem.Env} {sc : List (Str × NameKind)}
noncomputable def notStar : Expr → Bool
  | .Starred .. => false
  | _ => true
theorem star_of {e : Expr} (h : notStar e = true) : ∀ v p, e ≠ .Starred v p := by
  rintro v p rfl
  exact nomatch (show false = true from h)
structure EsOk (B : Base) (n : Nat) (C : Handler) (env : PySem.Env) (es : List Expr) (c : IE) : Prop where
  spl : ∀ pos, EvsOk B n env (asL (runE B.ns C c)) (spliced (backTo pos (starEach es env)))
  args : ∀ (f : Value) (pos : Pos) (A : Around) (ρ : Vars) (σ : Store) (φ : Links) (s : Shared) (a : List AV) (σ' : Store) (Q : Args → Shared → Prop) (E : Value → Shared → Prop),
    AOk A n → asL (runE B.ns C c) ρ σ = some (a, σ') → SR B s.heap φ σ → FR B env s.heap φ ρ → Rets B s φ σ' (fun vs s' => Q ⟨vs, []⟩ s') a → wpAny (model B.prog B.w) A (evalArgs f true (backTo pos (starEach es env)) []) Q E s
  any : ∀ pos, (backTo pos (starEach es env)).any (·.1) = false
  all : ∀ pos, (backTo pos (starEach es env)).all (fun x => !x.1) = true
theorem es_nil : EsOk B n C env [] .nil where
  spl := fun pos A ρ σ φ s a σ' Q E ok e S F r => by cases e; exact Calls.spliced_nil (r [] s.heap s.toks φ (Step.refl _ _) S .nil)
  args := fun f pos A ρ σ φ s a σ' Q E ok e S F r => by cases e; exact evalArgs_nil3 (r [] s.heap s.toks φ (Step.refl _ _) S .nil)
  any := fun zz => rfl
  all := fun zz => rfl
theorem asL_cons {a r : IE} {ρ : Vars} {σ : Store} {x : List AV × Store} {ns : List Int} (e : asL (runE ns C (.cons a r)) ρ σ = some x) : ∃ p q, runE ns C a ρ σ = some p ∧ asL (runE ns C r) ρ p.2 = some q ∧ x = (p.1 :: q.1, q.2) := by
  obtain ⟨y, h, e⟩ := bindS e
  obtain ⟨p, hp, h⟩ := bindS h
  obtain ⟨q, hq, h⟩ := bindS h
  cases h
  cases e
  exact ⟨p, q, hp, hq, rfl⟩
theorem es_cons {e : Expr} {r : List Expr} {a b : IE} (hn : notStar e = true) (I1 : EvOk B n env (runE B.ns C a) (eval e env)) (I2 : EsOk B n C env r b) : EsOk B n C env (e :: r) (.cons a b) := by
  have hs : ∀ pos, backTo pos (starEach (e :: r) env) = (false, eval e env) :: backTo pos (starEach r env) := fun pos => by rw [starEach_cons (star_of hn)]; rfl
  have spl : ∀ pos, EvsOk B n env (asL (runE B.ns C (.cons a b))) (spliced ((false, eval e env) :: backTo pos (starEach r env))) := fun pos A ρ σ φ s x σ' Q E ok e S F k => by
    obtain ⟨p, q, hp, hq, e⟩ := asL_cons e
    cases e
    refine Calls.spliced_cons (I1 A ρ σ φ s p.1 p.2 _ E ok hp S F fun v h' tk φ' st S' hv => ?_)
    refine I2.spl pos A ρ p.2 φ' { s with heap := h', toks := tk } q.1 q.2 _ E ok hq S' (F.step S st) fun vs h'' tk' φ'' st' S'' hvs => ?_
    exact k (v :: vs) h'' tk' φ'' (st.trans S' st') S'' (.cons (hv.step S' st') hvs)
  exact ⟨fun pos => (hs pos).symm ▸ spl pos, fun f pos A ρ σ φ s x σ' Q E ok e S F k => (hs pos).symm ▸ Calls.evalArgs_plain (spl pos A ρ σ φ s x σ' (fun vs s' => Q ⟨vs, []⟩ s') E ok e S F k), fun pos => (hs pos).symm ▸ I2.any pos, fun pos => (hs pos).symm ▸ I2.all pos⟩
theorem callOk {f : Value} {first : List Value} {pos : Pos} {es : List Expr} {c : IE} (I : EsOk B n C env es c) {A : Around} {ρ : Vars} {σ : Store} {φ : Links} {s : Shared} {a : List AV} {σ' : Store} {Q : Value → Shared → Prop} {E : Value → Shared → Prop}
    (ok : AOk A n) (G : Good B) (hk : ∀ h, B.K.In h → ∃ k, (k = Keeper.frame ∨ k = Keeper.machine ∨ k = Keeper.boundFrame) ∧ Looks (model B.prog B.w) h (keeperOf f) k) (e : asL (runE B.ns C c) ρ σ = some (a, σ')) (S : SR B s.heap φ σ) (F : FR B env s.heap φ ρ)
    (r : ∀ vs h' tk φ', Step φ φ' s.heap h' → SR B h' φ' σ' → VRs B h' φ' vs a → wpAny (model B.prog B.w) A (call f (first ++ vs) []) Q E { s with heap := h', toks := tk }) :
    wpAny (model B.prog B.w) A (callWith pos f first (backTo pos (starEach es env)) []) Q E s := by
  refine callWith_of (P := fun h => B.K.In h) ?_ hk (I.args _ _ _ _ _ _ _ _ _ _ _ ok e S F fun vs h' tk φ' st S' hv => ⟨S'.kin G, r vs h' tk φ' st S' hv⟩)
  rw [I.any pos]; rfl
theorem keep_type (T : String) (M : Model) (h : Heap) : ∃ k, (k = Keeper.frame ∨ k = Keeper.machine ∨ k = Keeper.boundFrame) ∧ Looks M h (keeperOf (.type T)) k := ⟨_, .inr (.inl rfl), Looks.of_pure rfl⟩
theorem keep_builtin (T : String) (M : Model) (h : Heap) : ∃ k, (k = Keeper.frame ∨ k = Keeper.machine ∨ k = Keeper.boundFrame) ∧ Looks M h (keeperOf (.builtin T)) k := ⟨_, .inr (.inl rfl), Looks.of_pure rfl⟩
theorem keep_bi (b : BI) (M : Model) (h : Heap) : ∃ k, (k = Keeper.frame ∨ k = Keeper.machine ∨ k = Keeper.boundFrame) ∧ Looks M h (keeperOf b.value) k := by
  cases b <;> first | exact keep_type _ _ _ | exact keep_builtin _ _ _
variable (O : EnvOk env sc) (G : Good B)
include O
theorem kindOf_of {x : Str} {k : NameKind} (h : kindIn x sc = some k) : env.kindOf x = some k := by
  have := kindIn_lookup h
  unfold Env.kindOf; rw [O.names]; exact this
theorem place_of {x : Str} {i : Nat} (h : place x sc = some i) : place x env.scope.names = some i := by rw [O.names]; exact h
theorem notDebug {x : Str} {i : Nat} (h : place x sc = some i) : (x == ("__debug__" : Str)) = false := by
  rw [beq_eq_false_iff_ne]
  rintro rfl
  rw [O.debug] at h; cases h
theorem nameOk {x : Str} {pos : Pos} {i : Nat} (hi : place x sc = some i) : EvOk B n env (runE B.ns C (.var i)) (eval (.Name x pos) env) := fun A ρ σ φ s a σ' Q E ok e S F r => by
  obtain ⟨v, hv, e⟩ := mapS e
  cases e
  obtain ⟨m, hm, hvars⟩ := F.vars
  refine wpAny_Name ?_ (notDebug O hi)
  rcases hvars x i a (place_of O hi) hv with ⟨hk, w, hw, hr⟩ | ⟨hk, c, w, hc, hcell, hr⟩
  · exact wpAny_loadName_local O.kind hk hm hw (r.tok S hr s.toks)
  · exact wpAny_loadName_cell O.kind hk hc hcell (r.tok S hr s.toks)
include G
theorem globalOk {x : Str} {pos : Pos} {v : Value} {A : Around} {s : Shared} {φ : Links} {σ : Store} {Q : Value → Shared → Prop} {E : Value → Shared → Prop} (hx : kindIn x sc = some .globalImplicit) (S : SR B s.heap φ σ)
    (hv : ∀ mg mb, B.hb.Ns mainGlobals mg → B.hb.Ns builtinsNs mb → (∀ f ∈ fnGlobals, mg (Str.ofString f.title) = some (.ref (B.addr f))) → (∀ c : Cls, mg (Str.ofString c.title) = some (.ref (B.clsA c))) → (∀ b : BI, mg b.name = none ∧ mb b.name = some b.value) → mg x = some v ∨ (mg x = none ∧ mb x = some v))
    (h : Q v s) : wpAny (model B.prog B.w) A (eval (.Name x pos) env) Q E s := by
  obtain ⟨mg, mb, g1, g2, g3, g4, g5⟩ := G.glob
  have k1 : s.heap.Ns env.globals mg := by rw [O.globals]; exact g1.keeps S.base
  have k2 : s.heap.Ns env.builtins mb := by rw [O.builtins]; exact g2.keeps S.base
  have hd : (x == ("__debug__" : Str)) = false := by
    unfold kindIn at hx
    obtain ⟨i, hi, zz⟩ := bindS hx
    exact notDebug O hi
  refine Calls.Name_function_global O.kind (kindOf_of O hx) ?_ hd
  rcases hv mg mb g1 g2 g3 g4 g5 with e | ⟨e1, e2⟩
  · exact Calls.loadGlobal_global k1 e h
  · exact Calls.loadGlobal_builtin k1 e1 k2 e2 h
end
end Mine
end
-- R11
section
namespace Mine
open PySem PySem.W PySem.Calls PyProof.Rows PySem.SeqAt
theorem AOk.h {A : Around} {n : Nat} (h : AOk A n) : AOkH A n := ⟨h.1, by have := h.2.1; exact (lin [_, _] [.le (.a (.a (.v 0) (.m 4 (.v 1))) (.n 8)) (.n 990)] (.a (.a (.v 0) (.m 4 (.v 1))) (.n 5)) (.n 990) (.refl true) this), by have := h.2.2; exact (lin [_, _] [.le (.a (.a (.v 0) (.m 30 (.v 1))) (.n 30)) (.n 9000)] (.a (.a (.v 0) (.m 30 (.v 1))) (.n 10)) (.n 9000) (.refl true) this)⟩
theorem orS {α : Type} {p : Prop} [Decidable p] {x y : α} {o : Option α} (e : (if p then some x else o) = some y) : (p ∧ x = y) ∨ o = some y := by
  by_cases h : p
  · rw [if_pos h] at e; exact .inl ⟨h, Option.some.inj e⟩
  · rw [if_neg h] at e; exact .inr e
theorem biOf_name {f : Str} {b : BI} (h : biOf f = some b) : f = b.name := by
  rcases orS h with ⟨g, rfl⟩ | h
  · exact (seq_iff.mp g).symm
  rcases orS h with ⟨g, rfl⟩ | h
  · exact (seq_iff.mp g).symm
  rcases orS h with ⟨g, rfl⟩ | h
  · exact (seq_iff.mp g).symm
  rcases orS h with ⟨g, rfl⟩ | h
  · exact (seq_iff.mp g).symm
  rcases orS h with ⟨g, rfl⟩ | h
  · exact (seq_iff.mp g).symm
  rcases orS h with ⟨g, rfl⟩ | h
  · exact (seq_iff.mp g).symm
  rcases orS h with ⟨g, rfl⟩ | h
  · exact (seq_iff.mp g).symm
  exact no h
theorem one_of {α : Type} {f : AV → Option α} {l : List AV} {r : α} (e : (match l with | [x] => f x | _ => none) = some r) : ∃ x, l = [x] ∧ f x = some r := by
  cases l with
  | nil => exact no e
  | cons x l => cases l with
    | nil => exact ⟨x, rfl, e⟩
    | cons _ _ => exact no e
theorem VRs.inv1 {B : Base} {h : Heap} {φ : Links} {vs : List Value} {a : AV} (x : VRs B h φ vs [a]) : ∃ v, vs = [v] ∧ VR B h φ v a := by
  obtain ⟨v, r, rfl, hv, hr⟩ := x.inv
  obtain rfl := hr.inv0
  exact ⟨v, rfl, hv⟩
theorem base_call {o : Expr} (name : Str) (env : PySem.Env) (whole : Sem Value) (h : notCall o = true) : attributeBase o name env whole = whole := by
  cases o <;> first | rfl | exact nomatch (show false = true from h)
section
variable {B : Base} {n : Nat} {C : Handler} {env : PySem.Env} {sc : List (Str × NameKind)}
theorem methCall {o : Expr} {co ce : IE} {m : Str} {ap pos : Pos} {es : List Expr} {ρ : Vars} {σ : Store} {φ : Links} {s : Shared} {a : AV} {σ₁ : Store} {A : Around} {Q : Value → Shared → Prop} {E : Value → Shared → Prop}
    (hn : notCall o = true) (hline : ap.endLine = pos.line) (hlen : es.length < 20) (IHo : EvOk B n env (runE B.ns C co) (eval o env)) (I : EsOk B n C env es ce)
    (ok : AOk A n) (eo : runE B.ns C co ρ σ = some (a, σ₁)) (S : SR B s.heap φ σ) (F : FR B env s.heap φ ρ)
    (k : ∀ v h' tk φ' pl, Step φ φ' s.heap h' → SR B h' φ' σ₁ → VR B h' φ' v a → wpAny (model B.prog B.w) A (getMethod v m pl) (fun p s₂ => wpAny (model B.prog B.w) A (callWith pos p.1 p.2 (backTo pos (starEach es env)) []) Q E s₂) E { s with heap := h', toks := tk }) :
    wpAny (model B.prog B.w) A (eval (.Call (.Attribute o m ap) es [] pos) env) Q E s := by
  have h2 := I.all pos
  have hform : methodCallForm (es.length + ([] : List Keyword).length) (backTo pos (starEach es env)) (backToKw pos (keywordEach [] env)) = true := by
    unfold methodCallForm
    rw [h2]
    show (true && true && decide (es.length + 0 + 0 < 30)) = true
    simp; exact (linl [_] [.lt (.v 0) (.n 20)] (.v 0) (.n 30) (.refl true) hlen)
  have hpos : methodCallPos true o env ap pos = pure pos := by
    unfold methodCallPos
    simp [hline]
  rw [arm_eval_Call, base_call m env _ hn]
  refine wpAny_bind (IHo A ρ σ φ s a σ₁ _ E ok eo S F fun v h' tk φ' st S' hv => ?_)
  refine wpAny_bind (wpAny_standAt ?_)
  unfold methodCall
  rw [hform]
  refine wpAny_bind (wpAny_holding (wpAny_mono (k v h' tk φ' _ st S' hv) (fun p s₂ h₂ => ?_) fun zz zz x => x))
  obtain ⟨f, first⟩ := p
  exact wpAny_bind (wpAny_of_eq hpos h₂)
variable (O : EnvOk env sc) (G : Good B) (H : HOk B n C)
include O G H
theorem fnCallOk {f : Str} {fp pos : Pos} {es : List Expr} {g : Fn} (hk : kindIn f sc = some .globalImplicit) (hg : findFn f fnGlobals = some g) {ce : IE} (I : EsOk B n C env es ce) :
    EvOk B n env (fun ρ σ => (asL (runE B.ns C ce) ρ σ).bind fun b => C g b.1 b.2) (eval (.Call (.Name f fp) es [] pos) env) := fun A ρ σ φ s a σ' Q E ok e S F r => by
  obtain ⟨b, hb, e⟩ := bindS e
  obtain ⟨hm, hf⟩ := findFn_mem hg
  refine wpAny_Call_NameR (globalOk O G hk S (v := .ref (B.addr g)) (fun mg mb zz zz g3 zz zz => .inl (by rw [hf]; exact g3 g hm)) ?_)
  refine callOk (first := []) I ok G (fun h X => keeps_K (G.keepF g) h X) hb S F fun vs h' tk φ' st S' hv => ?_
  refine wpAny_call (H g b.1 b.2 a σ' A { s with heap := h', toks := tk } φ' _ _ ok.h e S' hv fun v h'' tk' φ'' st' S'' hv' => ?_)
  exact r v h'' tk' φ'' (st.trans S' st') S'' hv'
theorem newCallOk {f : Str} {fp pos : Pos} {es : List Expr} {c : Cls} (hk : kindIn f sc = some .globalImplicit) (hg : clsOf f = some c) {ce : IE} (I : EsOk B n C env es ce) :
    EvOk B n env (fun ρ σ => (asL (runE B.ns C ce) ρ σ).bind fun b => (C c.init (.cell b.2.length :: b.1) (b.2 ++ [.obj c []])).bind fun r => if r.1 = .none then some (.cell b.2.length, r.2) else none) (eval (.Call (.Name f fp) es [] pos) env) := fun A ρ σ φ s a σ' Q E ok e S F r => by
  obtain ⟨b, hb, e⟩ := bindS e
  obtain ⟨q, hq, e⟩ := bindS e
  · obtain ⟨hnone, e⟩ := ifS e
    cases e
    have hf : f = Str.ofString c.title := by
      rcases orS hg with ⟨g, rfl⟩ | hg
      · exact (seq_iff.mp g).symm
      rcases orS hg with ⟨g, rfl⟩ | hg
      · exact (seq_iff.mp g).symm
      · exact no hg
    obtain ⟨k1, k2, k3, k4, k5, k6⟩ := clsOkIn_of (G.cls c)
    refine wpAny_Call_NameR (globalOk O G hk S (v := .ref (B.clsA c)) (fun mg mb zz zz zz g4 zz => .inl (by rw [hf]; exact g4 c)) ?_)
    refine callOk (first := []) I ok G (fun h X => keeps_K k6 h X) hb S F fun vs h' tk φ' st S' hv => ?_
    refine wpAny_call ?_
    have X := S'.kin G
    have nd : h'.get? h'.objs.size = none := get_size_none _
    have kk : ∀ a o, h'.get? a = some o → ((h'.push emptyDict).push (instObj (B.clsA c) h'.objs.size)).get? a = some o := fun a o x => Heap.get?_push_of_some _ (Heap.get?_push_of_some _ x)
    have gx : ((h'.push emptyDict).push (instObj (B.clsA c) h'.objs.size)).get? (h'.objs.size + 1) = some (instObj (B.clsA c) h'.objs.size) := by
      have := Heap.get?_push_size (h'.push emptyDict) (o := instObj (B.clsA c) h'.objs.size) rfl
      rwa [Heap.size_push] at this
    have gd : ((h'.push emptyDict).push (instObj (B.clsA c) h'.objs.size)).get? h'.objs.size = some emptyDict := Heap.get?_push_of_some _ (Heap.get?_push_size _ rfl)
    obtain ⟨S₂, st₂⟩ := S'.push (p := (h'.objs.size + 1, h'.objs.size)) (c := .obj c []) nd kk fun st => ⟨gx, [], 0, gd, .nil, by simp⟩
    have hx : (φ' ++ [(h'.objs.size + 1, h'.objs.size)])[b.2.length]? = some (h'.objs.size + 1, h'.objs.size) := by rw [← S'.len]; simp
    have w0 : VR B ((h'.push emptyDict).push (instObj (B.clsA c) h'.objs.size)) (φ' ++ [(h'.objs.size + 1, h'.objs.size)]) (.ref (h'.objs.size + 1)) (.cell b.2.length) := VR.cell hx
    refine make_core (makes_of X k3) (looks_findIn X k4) (fun self => bind_fn X self (beq_iff_eq.mp k5)) (.inl rfl) ?_
    refine H c.init _ _ q.1 q.2 _ { s with heap := (h'.push emptyDict).push (instObj (B.clsA c) h'.objs.size), toks := tk } _ _ _ ?_ hq S₂ (.cons w0 (hv.step S' st₂)) fun v h'' tk' φ'' st' S'' hv' => ?_
    · refine ⟨ok.1, ?_, ?_⟩
      · rw [depth_under_make]; have := ok.2.1; exact (lin [_, _] [.le (.a (.a (.v 0) (.m 4 (.v 1))) (.n 8)) (.n 990)] (.a (.a (.a (.v 0) (.n 1)) (.m 4 (.v 1))) (.n 5)) (.n 990) (.refl true) this)
      · rw [units_under_make]; have := ok.2.2; exact (lin [_, _] [.le (.a (.a (.v 0) (.m 30 (.v 1))) (.n 30)) (.n 9000)] (.a (.a (.a (.v 0) (.n 1)) (.m 30 (.v 1))) (.n 10)) (.n 9000) (.refl true) this)
    · rw [hnone] at hv'
      obtain rfl := hv'.inv
      refine ⟨rfl, ?_⟩
      exact r _ h'' tk' φ'' ((st.trans S' st₂).trans S₂ st') S'' (w0.step S₂ st')
theorem biCallOk {f : Str} {fp pos : Pos} {es : List Expr} {b : BI} (hk : kindIn f sc = some .globalImplicit) (hg : biOf f = some b) {ce : IE} (I : EsOk B n C env es ce) :
    EvOk B n env (fun ρ σ => (asL (runE B.ns C ce) ρ σ).bind fun a => (match a.1 with | [x] => biV B.ns b x a.2 | _ => none)) (eval (.Call (.Name f fp) es [] pos) env) := fun A ρ σ φ s a σ' Q E ok e S F r => by
  obtain ⟨p, hp, e⟩ := bindS e
  obtain ⟨x, hx, e⟩ := one_of e
  refine wpAny_Call_NameR (globalOk O G hk S (v := b.value) (fun mg mb zz zz zz zz g5 => .inr (by rw [biOf_name hg]; exact g5 b)) ?_)
  refine callOk (first := []) I ok G (fun h zz => keep_bi b _ h) hp S F fun vs h' tk φ' st S' hv => ?_
  rw [hx] at hv
  obtain ⟨v, rfl, hw⟩ := hv.inv1
  exact biOk G ok e S' hw (r.after S' st)
omit O G H in
theorem isList_of {v : AV} {σ : Store} (hl : isListV v σ = true) : ∃ i l, v = .cell i ∧ listAt σ i = some l := by
  cases v <;> first
    | exact nomatch (show false = true from hl)
    | (obtain ⟨l, hl⟩ := Option.isSome_iff_exists.mp hl; exact ⟨_, l, rfl, hl⟩)
omit O H in
theorem appCallOk {o : Expr} {co ce : IE} {m : Str} {ap pos : Pos} {es : List Expr} (hm : seq m "append" = true) (hn : notCall o = true) (hline : ap.endLine = pos.line) (hlen : es.length < 20) (IHo : EvOk B n env (runE B.ns C co) (eval o env)) (I : EsOk B n C env es ce) :
    EvOk B n env (runE B.ns C (.app co ce)) (eval (.Call (.Attribute o m ap) es [] pos) env) := fun A ρ σ φ s a σ' Q E ok e S F r => by
  obtain ⟨p, hp, e⟩ := bindS e
  · obtain ⟨hl, e⟩ := ifS e
    obtain ⟨q, hq, ea⟩ := bindS e
    clear e
    obtain ⟨i, l, hpi, hl⟩ := isList_of hl
    refine methCall hn hline hlen IHo I ok hp S F fun v h' tk φ' pl st S' hv => ?_
    obtain ⟨a1, vs1, n1, e1, e2, g1, r1, s1⟩ := VR.list (s := { s with heap := h', toks := tk }) S' (hpi ▸ hv) hl
    have F' := F.step S st
    have hm' := seq_iff.mp hm
    subst hm'
    · obtain ⟨x, hx, ea⟩ := one_of ea
      obtain ⟨σ'', hap, e⟩ := mapS ea
      cases e
      rw [e1]
      refine getMethod_builtin (T := "list") ⟨_, g1, rfl⟩ PySem.F.plainAttrs_list PySem.F.slot_list_append PySem.F.type_list_append (fun b hb => by cases hb; exact ⟨_, g1, rfl⟩) ?_
      refine callOk (first := [Value.ref a1]) I ok G (fun h zz => keep_builtin _ _ h) hq S' F' fun vs h'' tk' φ'' st' S'' hvs => ?_
      rw [hx] at hvs
      obtain ⟨w, rfl, hw⟩ := hvs.inv1
      rw [e1] at hv
      exact Mine.appendOk hap S'' (hv.step S' st') hw ((r.after S' st).after S'' st')
omit O H in
theorem popCallOk {o : Expr} {co ce : IE} {m : Str} {ap pos : Pos} {es : List Expr} (hm : seq m "pop" = true) (hn : notCall o = true) (hline : ap.endLine = pos.line) (hlen : es.length < 20) (IHo : EvOk B n env (runE B.ns C co) (eval o env)) (I : EsOk B n C env es ce) :
    EvOk B n env (runE B.ns C (.pop co ce)) (eval (.Call (.Attribute o m ap) es [] pos) env) := fun A ρ σ φ s a σ' Q E ok e S F r => by
  obtain ⟨p, hp, e⟩ := bindS e
  · obtain ⟨hl, e⟩ := ifS e
    obtain ⟨q, hq, ea⟩ := bindS e
    clear e
    obtain ⟨i, l, hpi, hl⟩ := isList_of hl
    refine methCall hn hline hlen IHo I ok hp S F fun v h' tk φ' pl st S' hv => ?_
    obtain ⟨a1, vs1, n1, e1, e2, g1, r1, s1⟩ := VR.list (s := { s with heap := h', toks := tk }) S' (hpi ▸ hv) hl
    have F' := F.step S st
    have hm' := seq_iff.mp hm
    subst hm'
    rw [e1]
    refine getMethod_builtin (T := "list") ⟨_, g1, rfl⟩ PySem.F.plainAttrs_list PySem.F.slot_list_pop PySem.F.type_list_pop (fun b hb => by cases hb; exact ⟨_, g1, rfl⟩) ?_
    refine callOk (first := [Value.ref a1]) I ok G (fun h zz => keep_builtin _ _ h) hq S' F' fun vs h'' tk' φ'' st' S'' hvs => ?_
    rw [e1] at hv
    obtain ⟨l1, σ1⟩ := q
    cases l1 with
    | nil =>
      obtain rfl := hvs.inv0
      exact popOk ea S'' (hv.step S' st') ((r.after S' st).after S'' st')
    | cons x l1 => cases l1 with
      | nil =>
        obtain ⟨w, rfl, hw⟩ := hvs.inv1
        exact popAtOk ea S'' (hv.step S' st') hw ((r.after S' st).after S'' st')
      | cons _ _ => exact no ea
omit O G H in
theorem isMaker_of {v : AV} {σ : Store} (h : isMakerV v σ = true) : ∃ i l, v = .cell i ∧ objAt σ i = some (.maker, l) ∧ l.all (fun q => isAttr q.1) = true := by
  cases v with
  | cell i =>
    dsimp only [isMakerV] at h
    cases q : objAt σ i with
    | none => rw [q] at h; exact nomatch h
    | some p =>
      rw [q] at h
      obtain ⟨h1, h2⟩ := Bool.and_eq_true_iff.mp h
      obtain ⟨c, l⟩ := p
      cases of_decide_eq_true h1
      exact ⟨i, l, rfl, q, h2⟩
  | _ => exact nomatch (show false = true from h)
omit O in
theorem methCallOk {o : Expr} {co ce : IE} {m : Str} {f : Fn} {ap pos : Pos} {es : List Expr} (hf : findFn m fnMeths = some f) (hn : notCall o = true) (hline : ap.endLine = pos.line) (hlen : es.length < 20) (IHo : EvOk B n env (runE B.ns C co) (eval o env)) (I : EsOk B n C env es ce) :
    EvOk B n env (runE B.ns C (.meth f co ce)) (eval (.Call (.Attribute o m ap) es [] pos) env) := fun A ρ σ φ s a σ' Q E ok e S F r => by
  obtain ⟨p, hp, e⟩ := bindS e
  · obtain ⟨hmk, e⟩ := ifS e
    obtain ⟨q, hq, e⟩ := bindS e
    obtain ⟨i, l, hpi, hl, hall⟩ := isMaker_of hmk
    refine methCall hn hline hlen IHo I ok hp S F fun v h' tk φ' pl st S' hv => ?_
    obtain ⟨lk, es', k, e1, e2, e3, e4, e5, e6⟩ := VR.obj (s := { s with heap := h', toks := tk }) S' (hpi ▸ hv) hl
    obtain ⟨m1, m2, m3⟩ := G.meths m f hf
    have hshadow : getL m es' = some none := e5.not_in m fun n y hn hy => by
      obtain ⟨q, hq, rfl⟩ := List.mem_map.mp hn
      exact G.methNames m f hf q.1 y (List.all_eq_true.mp hall q hq) hy
    rw [e1]
    refine method_fn (S'.kin G) (C := B.clsA .maker) (ox := instObj (B.clsA .maker) lk.2) (od := some (dictOf es' k)) ⟨e3, rfl, rfl, e4⟩ (plainGet_of m1).1 (plainGet_of m1).2 m2 (beq_iff_eq.mp m3) (by show (lookIn m (dictOf es' k)).map _ = _; rw [lookIn_dict, hshadow]; rfl) ?_
    refine callOk (first := [Value.ref lk.1]) I ok G (fun h X => keeps_K (G.keepF f) h X) hq S' (F.step S st) fun vs h'' tk' φ'' st' S'' hvs => ?_
    rw [e1] at hv
    refine wpAny_call (H f _ _ a σ' A { s with heap := h'', toks := tk' } φ'' _ _ ok.h e S'' (.cons (hv.step S' st') hvs) fun v h3 tk3 φ3 st3 S3 hv3 => ?_)
    exact r v h3 tk3 φ3 ((st.trans S' st').trans S'' st3) S3 hv3
end
end Mine
end
-- R12
section
namespace Mine
open PySem PySem.W PySem.Calls PyProof.Rows PySem.SeqAt
section
variable {B : Base} {n : Nat} {C : Handler} {env : PySem.Env} {sc : List (Str × NameKind)}
theorem noneE {k : Nat} {pos : Pos} : EvOk B n env (runE B.ns C .none) (eval (.Constant .none k pos) env) := fun A ρ σ φ s a σ' Q E ok e S F r => by cases e; exact wpAny_Constant_none (r.tok S .none s.toks)
theorem boolE {b : Bool} {k : Nat} {pos : Pos} : EvOk B n env (runE B.ns C (.bool b)) (eval (.Constant (.bool b) k pos) env) := fun A ρ σ φ s a σ' Q E ok e S F r => by cases e; exact wpAny_Constant_bool (r.tok S (.bool _) s.toks)
theorem intE {i : Int} {k : Nat} {pos : Pos} : EvOk B n env (runE B.ns C (.int i)) (eval (.Constant (.int i) k pos) env) := fun A ρ σ φ s a σ' Q E ok e S F r => by cases e; exact wpAny_Constant_int (r.tok S (.int _ _) _)
theorem strE {x : Str} {m : Nat} {k : Nat} {pos : Pos} (hm : codeOf x = some m) : EvOk B n env (runE B.ns C (.str m)) (eval (.Constant (.str x) k pos) env) := fun A ρ σ φ s a σ' Q E ok e S F r => by cases e; exact wpAny_Constant_str (r.tok S (.str (codeOf_tab hm)) _)
theorem binE {f g : Run} {l r : Expr} {op : Operator} {pos : Pos} (I1 : EvOk B n env f (eval l env)) (I2 : EvOk B n env g (eval r env)) :
    EvOk B n env (fun ρ σ => (f ρ σ).bind fun a => (g ρ a.2).bind fun b => binV op a.1 b.1 b.2) (eval (.BinOp l op r pos) env) := fun A ρ σ φ s a σ' Q E ok e S F k => by
  obtain ⟨p, hp, e⟩ := bindS e
  obtain ⟨q, hq, e⟩ := bindS e
  refine wpAny_BinOp (I1 A ρ σ φ s p.1 p.2 _ E ok hp S F fun v h' tk φ' st S' hv => ?_)
  refine I2 A ρ p.2 φ' { s with heap := h', toks := tk } q.1 q.2 _ E ok hq S' (F.step S st) fun u h'' tk' φ'' st' S'' hu => ?_
  exact binOk e S'' (hv.step S' st') hu ((k.after S' st).after S'' st')
theorem negE {f : Run} {x : Expr} {pos : Pos} (I1 : EvOk B n env f (eval x env)) :
    EvOk B n env (fun ρ σ => (f ρ σ).bind fun a => (match a.1 with | .int i => some (.int (-i), a.2) | _ => none)) (eval (.UnaryOp .USub x pos) env) := fun A ρ σ φ s a σ' Q E ok e S F k => by
  obtain ⟨⟨a1, σ1⟩, hp, e⟩ := bindS e
  cases a1 with
  | int i =>
    cases e
    refine wpAny_UnaryOp (I1 A ρ σ φ s _ _ _ E ok hp S F fun v h' tk φ' st S' hv => ?_)
    obtain ⟨t, rfl⟩ := hv.inv
    exact PySem.P.neg_int ((k.after S' st).tok S' (.int _ _) _)
  | _ => exact no e
theorem ifE {t b o : Expr} {pos : Pos} {f : RunB} {g h : Run} (I0 : EvBOk B n env f (isTrue t env (eval t env))) (I1 : EvOk B n env g (eval b env)) (I2 : EvOk B n env h (eval o env)) :
    EvOk B n env (fun ρ σ => (f ρ σ).bind fun c => if c.1 then g ρ c.2 else h ρ c.2) (eval (.IfExp t b o pos) env) := fun A ρ σ φ s a σ' Q E ok e S F k => by
  obtain ⟨p, hp, e⟩ := bindS e
  refine wpAny_IfExp (I0 A ρ σ φ s p.1 p.2 _ E ok hp S F fun h' tk φ' st S' => ?_)
  cases hc : p.1 with
  | true =>
    rw [hc] at e
    exact I1 A ρ p.2 φ' { s with heap := h', toks := tk } a σ' Q E ok e S' (F.step S st) (k.after S' st)
  | false =>
    rw [hc] at e
    exact I2 A ρ p.2 φ' { s with heap := h', toks := tk } a σ' Q E ok e S' (F.step S st) (k.after S' st)
theorem dictE {pos : Pos} : EvOk B n env (fun zz σ => some (newCell (.dict []) σ)) (eval (.Dict [] [] pos) env) := fun A ρ σ φ s a σ' Q E ok e S F k => by
  cases e
  refine wpAny_Dict_empty ?_
  obtain ⟨S2, st⟩ := S.push (h' := s.heap.push { cls := .type "dict", data := .dict #[] }) (p := (s.heap.objs.size, s.heap.objs.size)) (c := .dict []) (get_size_none _) (fun a o x => Heap.get?_push_of_some _ x)
    fun st => ⟨rfl, [], Heap.DictOf.new _, .nil, by simp⟩
  have hx : (φ ++ [(s.heap.objs.size, s.heap.objs.size)])[σ.length]? = some (s.heap.objs.size, s.heap.objs.size) := by rw [← S.len]; simp
  exact k _ _ s.toks _ st S2 (.cell hx)
theorem listE {es : List Expr} {ce : IE} {pos : Pos} (I : EsOk B n C env es ce) :
    EvOk B n env (runE B.ns C (.list ce)) (eval (.List es pos) env) := fun A ρ σ φ s a σ' Q E ok e S F k => by
  obtain ⟨p, hp, e⟩ := bindS e
  · obtain ⟨hl, e⟩ := ifS e
    cases e
    refine wpAny_List_spliced (I.spl pos A ρ σ φ s p.1 p.2 _ E ok hp S F fun vs h' tk φ' st S' hv => ⟨?_, ?_⟩)
    · rw [hv.length]; exact lim_line hl
    · exact ret_list (s := { s with heap := h', toks := tk }) (tk := tk) S' (k.after S' st) hv hl
theorem tupE {es : List Expr} {ce : IE} {pos : Pos} {x1} (I : EsOk B n C env es ce) :
    EvOk B n env (runE B.ns C (.tup ce)) (eval (.Tuple es x1 pos) env) := fun A ρ σ φ s a σ' Q E ok e S F k => by
  obtain ⟨p, hp, e⟩ := bindS e
  · obtain ⟨hl, e⟩ := ifS e
    cases e
    refine wpAny_Tuple_spliced (I.spl pos A ρ σ φ s p.1 p.2 _ E ok hp S F fun vs h' tk φ' st S' hv => ⟨?_, ?_⟩)
    · rw [hv.length]; exact lim_line hl
    · exact ret_tup (s := { s with heap := h', toks := tk }) (tk := tk) S' (k.after S' st) hv hl
theorem cmp_core {l r : Expr} {a b : IE} {op : CmpOp} (G : Good B) (I1 : EvOk B n env (runE B.ns C a) (eval l env)) (I2 : EvOk B n env (runE B.ns C b) (eval r env))
    {A : Around} {ρ : Vars} {σ : Store} {φ : Links} {s : Shared} {x : AV} {σ' : Store} {Q : Value → Shared → Prop} {E : Value → Shared → Prop} (ok : AOk A n)
    (e : runE B.ns C (.cmp op a b) ρ σ = some (x, σ')) (S : SR B s.heap φ σ) (F : FR B env s.heap φ ρ) (k : ∀ c, x = .bool c → Ret B s φ σ' Q (.bool c)) :
    wpAny (model B.prog B.w) A (eval l env) (fun a s₁ => wpAny (model B.prog B.w) A (eval r env) (fun b s₂ => wpAny (model B.prog B.w) A (compareOp op a b) Q E s₂) E s₁) E s := by
  obtain ⟨p, hp, e⟩ := bindS e
  obtain ⟨q, hq, e⟩ := bindS e
  obtain ⟨c, hc, e⟩ := mapS e
  cases e
  refine I1 A ρ σ φ s p.1 p.2 _ E ok hp S F fun v h' tk φ' st S' hv => ?_
  refine I2 A ρ p.2 φ' { s with heap := h', toks := tk } q.1 q.2 _ E ok hq S' (F.step S st) fun u h'' tk' φ'' st' S'' hu => ?_
  exact cmpOk G ok hc S'' (hv.step S' st') hu (((k c rfl).after S' st).after S'' st')
theorem cmpE {l r : Expr} {a b : IE} {op : CmpOp} {pos : Pos} (hm : behindInMarks op r = false) (G : Good B) (I1 : EvOk B n env (runE B.ns C a) (eval l env)) (I2 : EvOk B n env (runE B.ns C b) (eval r env)) :
    EvOk B n env (runE B.ns C (.cmp op a b)) (eval (.Compare l [op] [r] pos) env) := fun A ρ σ φ s x σ' Q E ok e S F k =>
  wpAny_Compare1 (cmp_core G I1 I2 ok e S F fun c h => h ▸ k) hm
theorem cmpT {l r : Expr} {a b : IE} {op : CmpOp} {pos : Pos} {whole : Sem Value} (hm : behindInMarks op r = false) (G : Good B) (I1 : EvOk B n env (runE B.ns C a) (eval l env)) (I2 : EvOk B n env (runE B.ns C b) (eval r env)) :
    EvBOk B n env (asB (runE B.ns C (.cmp op a b))) (isTrue (.Compare l [op] [r] pos) env whole) := fun A ρ σ φ s x σ' Q E ok e S F k => by
  obtain ⟨y, hy, e⟩ := bindS e
  refine wpAny_isTrue_Compare1 (cmp_core (σ' := y.2) (x := y.1) G I1 I2 ok hy S F fun c h v h' tk φ' st S' hv => ?_) hm
  rw [h] at e
  cases e
  obtain rfl := hv.inv
  exact wpAny_truthy_bool (k h' tk φ' st S')
theorem attrE {o : Expr} {x : Str} {m : Nat} {pos : Pos} {f : Run} (G : Good B) (hn : notCall o = true) (hx : codeOf x = some m) (I : EvOk B n env f (eval o env)) :
    EvOk B n env (fun ρ σ => (f ρ σ).bind fun x => (attrV x.1 m x.2).map fun v => (v, x.2)) (eval (.Attribute o x pos) env) := fun A ρ σ φ s a σ' Q E ok e S F k => by
  obtain ⟨p, hp, e⟩ := bindS e
  obtain ⟨c, hc, e⟩ := mapS e
  cases e
  rw [arm_eval_Attribute, base_call x env _ hn]
  refine wpAny_bind (I A ρ σ φ s p.1 p.2 _ E ok hp S F fun v h' tk φ' st S' hv => ?_)
  refine wpAny_bind (wpAny_standAt (wpAny_bind (wpAny_holding ?_)))
  refine attrOk G hx hc S' hv fun w h'' tk' φ'' st' S'' hw => ?_
  exact wpAny_bind (wpAny_letTemporaryGo (wpAny_pure (k w h'' tk' φ'' (st.trans S' st') S'' hw)))
theorem subE {o i : Expr} {pos : Pos} {f g : Run} (I1 : EvOk B n env f (eval o env)) (I2 : EvOk B n env g (eval i env)) :
    EvOk B n env (fun ρ σ => (f ρ σ).bind fun x => (g ρ x.2).bind fun k => (idxV x.1 k.1 k.2).map fun v => (v, k.2)) (eval (.Subscript o i pos) env) := fun A ρ σ φ s a σ' Q E ok e S F k => by
  obtain ⟨p, hp, e⟩ := bindS e
  obtain ⟨q, hq, e⟩ := bindS e
  obtain ⟨c, hc, e⟩ := mapS e
  cases e
  refine Subscript_ (I1 A ρ σ φ s p.1 p.2 _ E ok hp S F fun v h' tk φ' st S' hv => ?_)
  refine I2 A ρ p.2 φ' { s with heap := h', toks := tk } q.1 q.2 _ E ok hq S' (F.step S st) fun u h'' tk' φ'' st' S'' hu => ?_
  have hv' := hv.step S' st'
  have hk : (∃ l, p.1 = .tup l) ∨ ∃ i, p.1 = .cell i ∧ ((∃ l, q.2[i]? = some (.list l)) ∨ ∃ l, q.2[i]? = some (.dict l)) := by
    obtain ⟨zz, zz, ⟨l, hl, zz⟩ | ⟨i, hi, ⟨l, hl, zz⟩ | ⟨l, hl, zz⟩⟩⟩ := idxInv hc
    · exact .inl ⟨l, hl⟩
    · exact .inr ⟨i, hi, .inl ⟨l, listAt_inv hl⟩⟩
    · exact .inr ⟨i, hi, .inr ⟨l, dictAt_inv hl⟩⟩
  obtain ⟨T, id, hT, hl⟩ := VR.getslot (s := { s with heap := h'', toks := tk' }) S'' hv' hk
  exact subTail hT hl (idxOk hc S'' hv' hu ((k.after S' st).after S'' st'))
theorem partOk {x : Expr} {k : Int} (h : constInt x = some k) {A : Around} {s : Shared} {Q : Value → Shared → Prop} {E : Value → Shared → Prop} (hq : ∀ t tk, Q (.int k t) { s with toks := tk }) :
    wpAny (model B.prog B.w) A (eval x env) Q E s := by
  cases x with
  | Constant c kk p => cases c with
    | int i => cases h; exact wpAny_Constant_int (hq _ _)
    | _ => exact no h
  | UnaryOp op y p => cases op with
    | USub => cases y with
      | Constant c kk p => cases c with
        | int i => cases h; exact wpAny_UnaryOp (wpAny_Constant_int (PySem.P.neg_int (hq _ _)))
        | _ => exact no h
      | _ => exact no h
    | _ => exact no h
  | _ => exact no h
inductive PartE : Option Expr → Option Int → Prop
  | none : PartE none none
  | some {x : Expr} {k : Int} : constInt x = some k → PartE (some x) (some k)
theorem partE {lo : Option Expr} {kl : Option Int} (h : PartE lo kl) {A : Around} {s : Shared} {Q : Value → Shared → Prop} {E : Value → Shared → Prop} (hq : ∀ v tk, IsPart v kl → Q v { s with toks := tk }) :
    wpAny (model B.prog B.w) A (evalPart lo env) Q E s := by
  cases h with
  | none => exact wpAny_evalPart_none (hq _ s.toks .none)
  | some h => exact wpAny_evalPart_some (partOk h fun t tk => hq _ tk (.int _ _))
theorem slice_core {o : Expr} {lo hi : Option Expr} {kl kh : Option Int} {p pos : Pos} {f : Run} (I1 : EvOk B n env f (eval o env))
    (pl : PartE lo kl) (ph : PartE hi kh) :
    EvOk B n env (fun ρ σ => (f ρ σ).bind fun x => sliceV x.1 kl kh x.2) (eval (.Subscript o (.Slice lo hi none p) pos) env) := fun A ρ σ φ s a σ' Q E ok e S F k => by
  obtain ⟨q, hq, e⟩ := bindS e
  refine Subscript_ (I1 A ρ σ φ s q.1 q.2 _ E ok hq S F fun v h' tk φ' st S' hv => ?_)
  have fin : ∀ (vl vu : Value) (tk' : Nat), IsPart vl kl → IsPart vu kh → wpAny (model B.prog B.w) A (subscriptTail o (.Slice lo hi none p) v (.ref h'.objs.size)) Q E { s with heap := h'.push { cls := .type "slice", data := .fields #[vl, vu, .none] }, toks := tk' } := fun vl vu tk' il iu => by
    have kk : ∀ a o, h'.get? a = some o → (h'.push { cls := .type "slice", data := .fields #[vl, vu, .none] }).get? a = some o := fun a o x => Heap.get?_push_of_some _ x
    have S2 : SR B (h'.push { cls := .type "slice", data := .fields #[vl, vu, .none] }) φ' q.2 := S'.grow kk
    have st2 := Step.of_grow (φ := φ') kk
    have hv' := hv.step S' st2
    have hk : (∃ l, q.1 = .tup l) ∨ ∃ i, q.1 = .cell i ∧ ((∃ l, q.2[i]? = some (.list l)) ∨ ∃ l, q.2[i]? = some (.dict l)) := by
      generalize q.1 = a at e
      cases a with
      | tup l => exact .inl ⟨l, rfl⟩
      | cell c =>
        obtain ⟨l, hl, zz⟩ := bindS e
        exact .inr ⟨c, rfl, .inl ⟨l, listAt_inv hl⟩⟩
      | _ => exact no e
    obtain ⟨T, id, hT, hl⟩ := VR.getslot (s := { s with heap := h'.push { cls := .type "slice", data := .fields #[vl, vu, .none] }, toks := tk' }) S2 hv' hk
    refine subTail hT hl (sliceOk e S2 hv' (vl := vl) (vu := vu) (sl := h'.objs.size) ?_ il iu ((k.after (tk₁ := tk) S' st).after S2 st2))
    exact ⟨_, Heap.get?_push_size _ rfl, rfl, rfl⟩
  refine wpAny_Slice ?_
  exact partE pl fun vl t1 il => partE ph fun vu t2 iu => wpAny_evalPart_none (fin vl vu t2 il iu)
/-! what is tested -/
theorem testE {e : Expr} {whole : Sem Value} {f : Run} (he : isTrue e env whole = (do let v ← whole; standAt e.pos; holding [v] (truthy v))) (I : EvOk B n env f whole) :
    EvBOk B n env (fun ρ σ => testV (f ρ σ)) (isTrue e env whole) := fun A ρ σ φ s a σ' Q E ok e' S F k => by
  unfold testV at e'
  obtain ⟨p, hp, e'⟩ := bindS e'
  obtain ⟨c, hc, e'⟩ := mapS e'
  cases e'
  refine wpAny_isTrue_value (I A ρ σ φ s p.1 p.2 _ E ok hp S F fun v h' tk φ' st S' hv => ?_) he
  exact truthyOk hc S' hv (k.after S' st)
theorem notT {x : Expr} {pos : Pos} {whole : Sem Value} {f : RunB} (I : EvBOk B n env f (isTrue x env (eval x env))) :
    EvBOk B n env (fun ρ σ => (f ρ σ).map fun b => (!b.1, b.2)) (isTrue (.UnaryOp .Not x pos) env whole) := fun A ρ σ φ s a σ' Q E ok e S F k => by
  obtain ⟨p, hp, e⟩ := mapS e
  cases e
  exact wpAny_isTrue_Not (I A ρ σ φ s p.1 p.2 _ E ok hp S F fun h' tk φ' st S' => k h' tk φ' st S')
omit B n C env sc in
theorem and_if {α : Type} {t : Bool} {x y : α} : (if (BoolOp.And = .And ∧ t = false) ∨ (BoolOp.And = .Or ∧ t = true) then x else y) = if t then y else x := by cases t <;> rfl
omit B n C env sc in
theorem or_if {α : Type} {t : Bool} {x y : α} : (if (BoolOp.Or = .And ∧ t = false) ∨ (BoolOp.Or = .Or ∧ t = true) then x else y) = if t then x else y := by cases t <;> rfl
theorem allNil {op : BoolOp} : EvBOk B n env (fun zz σ => some (decide (op = .And), σ)) (allTrue op [] env) := fun A ρ σ φ s a σ' Q E ok e S F k => by
  cases e
  have := k s.heap s.toks φ (Step.refl _ _) S
  cases op
  · exact wpAny_allTrue_And_nil this
  · exact wpAny_allTrue_Or_nil this
theorem allCons {op : BoolOp} {x : Expr} {r : List Expr} {f g : RunB} (I1 : EvBOk B n env f (isTrue x env (eval x env))) (I2 : EvBOk B n env g (allTrue op r env)) :
    EvBOk B n env (fun ρ σ => (f ρ σ).bind fun a => if (op = .And ∧ a.1 = false) ∨ (op = .Or ∧ a.1 = true) then some a else g ρ a.2) (allTrue op (x :: r) env) := fun A ρ σ φ s a σ' Q E ok e S F k => by
  obtain ⟨p, hp, e⟩ := bindS e
  obtain ⟨c, σ1⟩ := p
  cases op
  · have e := and_if.symm.trans e
    refine wpAny_allTrue_And_cons (I1 A ρ σ φ s c σ1 _ E ok hp S F fun h' tk φ' st S' => ?_)
    cases c with
    | true => exact I2 A ρ σ1 φ' { s with heap := h', toks := tk } a σ' Q E ok e S' (F.step S st) (k.after S' st)
    | false =>
      cases (show some (false, σ1) = some (a, σ') from e)
      exact k h' tk φ' st S'
  · have e := or_if.symm.trans e
    refine wpAny_allTrue_Or_cons (I1 A ρ σ φ s c σ1 _ E ok hp S F fun h' tk φ' st S' => ?_)
    cases c with
    | false => exact I2 A ρ σ1 φ' { s with heap := h', toks := tk } a σ' Q E ok e S' (F.step S st) (k.after S' st)
    | true =>
      cases (show some (true, σ1) = some (a, σ') from e)
      exact k h' tk φ' st S'
theorem boolOne {pos : Pos} {op : BoolOp} {x : Expr} {f : Run} (I1 : EvOk B n env f (eval x env)) : EvOk B n env f (boolOp pos op (evalEach [x] env)) := I1
theorem boolCons {pos : Pos} {op : BoolOp} {x y : Expr} {r : List Expr} {f g : Run} (I1 : EvOk B n env f (eval x env)) (I2 : EvOk B n env g (boolOp pos op (evalEach (y :: r) env))) :
    EvOk B n env (fun ρ σ => (f ρ σ).bind fun a => (truthyV a.1 a.2).bind fun t => if (op = .And ∧ t = false) ∨ (op = .Or ∧ t = true) then some a else g ρ a.2) (boolOp pos op (evalEach (x :: y :: r) env)) := fun A ρ σ φ s a σ' Q E ok e S F k => by
  obtain ⟨p, hp, e⟩ := bindS e
  obtain ⟨t, ht, e⟩ := bindS e
  show wpAny _ A (boolOp pos op (eval x env :: eval y env :: evalEach r env)) Q E s
  rw [boolOp]
  · refine wpAny_bind (I1 A ρ σ φ s p.1 p.2 _ E ok hp S F fun v h' tk φ' st S' hv => ?_)
    refine wpAny_bind (wpAny_standAt (wpAny_bind (wpAny_holding ?_)))
    refine truthyOk ht S' hv fun h'' tk' φ'' st' S'' => ?_
    have hv' := hv.step S' st'
    have stop : some p = some (a, σ') → Q v { s with heap := h'', toks := tk' } := fun e => by
      cases e
      exact k v h'' tk' φ'' (st.trans S' st') S'' hv'
    have go : g ρ p.2 = some (a, σ') → _ := fun e => I2 A ρ p.2 φ'' { s with heap := h'', toks := tk' } a σ' Q E ok e S'' (F.step S (st.trans S' st')) (k.after S'' (st.trans S' st'))
    cases op
    · have e := and_if.symm.trans e
      cases t
      · exact wpAny_pure (stop e)
      · exact go e
    · have e := or_if.symm.trans e
      cases t
      · exact go e
      · exact wpAny_pure (stop e)
  · intro h; cases h
end
end Mine
end
-- R13
section
namespace Mine
open PySem PySem.W PySem.Calls PyProof.Rows PySem.SeqAt
structure StepX (X : Addr → Prop) (φ φ' : Links) (h h' : Heap) : Prop where
  ext : ∃ ψ, φ' = φ ++ ψ ∧ ∀ p ∈ ψ, h.get? p.2 = none
  has : ∀ a o, h.get? a = some o → ∃ o', h'.get? a = some o'
  keep : ∀ a o, h.get? a = some o → ¬ X a → (∀ p ∈ φ, a ≠ p.2) → h'.get? a = some o
noncomputable def Loose (o : Obj) : Prop := (∀ vs k, o ≠ { cls := .type "tuple", dict := none, data := .seq vs k, slots := #[] }) ∧ (∀ C d, o ≠ instObj C d) ∧ ∀ v, o.data ≠ .cell v
section
variable {B : Base} {h h' h'' : Heap} {φ φ' φ'' : Links} {σ σ' : Store} {X Y : Addr → Prop} {env : PySem.Env} {ρ : Vars}
theorem loose_fields {o : Obj} {vs : Array Value} {T : String} (hd : o.data = .fields vs) (hc : o.cls = .type T) : Loose o :=
  ⟨fun zz zz e => by (rw [e] at hd; cases hd), fun zz zz e => by (rw [e] at hc; cases hc), fun zz e => by (rw [e] at hd; cases hd)⟩
theorem loose_dict {o : Obj} {es : Array DictEntry} {n : Nat} (hd : o.data = .dict es n) : Loose o :=
  ⟨fun zz zz e => by (rw [e] at hd; cases hd), fun C zz e => by (rw [e] at hd; cases hd), fun zz e => by (rw [e] at hd; cases hd)⟩
theorem loose_list {xs : Array Value} {n : Nat} : Loose { cls := .type "list", data := .seq xs n } :=
  ⟨fun zz zz e => by simp at e, fun C zz e => by simp [instObj] at e, fun zz e => by cases e⟩
theorem loose_ns {h : Heap} {a : Addr} {m : Str → Option Value} (hn : h.Ns a m) : ∀ o, h.get? a = some o → Loose o := fun o e => by
  obtain ⟨o', es, ep, ho, hd, zz⟩ := hn
  rw [ho] at e; cases e
  exact loose_dict hd
theorem StepX.refl (X : Addr → Prop) (φ : Links) (h : Heap) : StepX X φ φ h h := ⟨⟨[], by simp, by simp⟩, fun zz o e => ⟨o, e⟩, fun zz zz e zz zz => e⟩
theorem StepX.trans (x : StepX X φ φ' h h') (y : StepX X φ' φ'' h' h'') : StepX X φ φ'' h h'' := by
  obtain ⟨⟨ψ, rfl, h1⟩, a1, k1⟩ := x
  obtain ⟨⟨χ, rfl, h2⟩, a2, k2⟩ := y
  have new : ∀ p ∈ χ, h.get? p.2 = none := fun p hp => by
    cases hq : h.get? p.2 with
    | none => rfl
    | some o => obtain ⟨o', ho'⟩ := a1 _ _ hq; rw [h2 p hp] at ho'; cases ho'
  refine ⟨⟨ψ ++ χ, by simp, fun p hp => (List.mem_append.mp hp).elim (h1 p) (new p)⟩, fun a o e => ?_, fun a o e nx n => ?_⟩
  · obtain ⟨o', ho'⟩ := a1 _ _ e; exact a2 _ _ ho'
  refine k2 a o (k1 a o e nx n) nx fun p hp => ?_
  rcases List.mem_append.mp hp with hp | hp
  · exact n p hp
  · intro q; rw [q, h1 p hp] at e; cases e
theorem Step.toX (x : Step φ φ' h h') (S' : SR B h' φ' σ') : StepX X φ φ' h h' := by
  refine ⟨x.ext, fun a o e => ?_, fun a o e zz n => x.keep a o e n⟩
  by_cases hm : ∃ p ∈ φ, a = p.2
  · obtain ⟨p, hp, rfl⟩ := hm
    obtain ⟨ψ, rfl, zz⟩ := x.ext
    obtain ⟨o', ho', zz⟩ := S'.mut (List.mem_append_left ψ hp)
    exact ⟨o', ho'⟩
  · exact ⟨o, x.keep _ _ e fun p hp q => hm ⟨p, hp, q⟩⟩
theorem StepX.mono (x : StepX X φ φ' h h') (m : ∀ a, X a → Y a ∨ h.get? a = none) : StepX Y φ φ' h h' :=
  ⟨x.ext, x.has, fun a o e ny n => x.keep a o e (fun hx => (m a hx).elim ny fun z => by rw [z] at e; cases e) n⟩
theorem StepX.toStep (x : StepX X φ φ' h h') (m : ∀ a, X a → h.get? a = none) : Step φ φ' h h' :=
  ⟨x.ext, fun a o e n => x.keep a o e (fun hx => by rw [m a hx] at e; cases e) n⟩
theorem StepX.at (x : Heap.ExtBut i h h') (hx : X i) (ha : ∃ o, h'.get? i = some o) : StepX X φ φ h h' :=
  ⟨⟨[], by simp, by simp⟩, fun a o e => by
    by_cases q : a = i
    · rw [q]; exact ha
    · exact ⟨o, x a o q e⟩, fun a o e nx zz => x a o (fun q => nx (q ▸ hx)) e⟩
theorem StepX.last {i : Addr} (x : StepX X φ φ' h h') (hi : h.get? i = none) (k : Heap.ExtBut i h' h'') : StepX X φ φ' h h'' := by
  refine ⟨x.ext, fun a o e => ?_, fun a o e nx n => k a o (fun q => by rw [q, hi] at e; cases e) (x.keep a o e nx n)⟩
  obtain ⟨o', ho'⟩ := x.has a o e
  exact ⟨o', k a o' (fun q => by rw [q, hi] at e; cases e) ho'⟩
theorem StepX.more (x : StepX X φ φ' h h') {i : Nat} {p : Addr × Addr} (e : φ[i]? = some p) : φ'[i]? = some p := by
  obtain ⟨ψ, rfl, zz⟩ := x.ext
  obtain ⟨hi, zz⟩ := List.getElem?_eq_some_iff.mp e
  rw [List.getElem?_append_left hi]; exact e
theorem StepX.off (x : StepX X φ φ' h h') {a : Addr} {o : Obj} (e : h.get? a = some o) (n : ∀ p ∈ φ, a ≠ p.2) : ∀ p ∈ φ', a ≠ p.2 := by
  obtain ⟨ψ, rfl, hn⟩ := x.ext
  intro p hp q
  rcases List.mem_append.mp hp with hp | hp
  · exact n p hp q
  · rw [q, hn p hp] at e; cases e
theorem StepX.tups (S : SR B h φ σ) (x : StepX X φ φ' h h') (l : ∀ a o, X a → h.get? a = some o → Loose o) : ∀ a vs k, IsT h a vs k → IsT h' a vs k := fun a vs k ht =>
  x.keep _ _ ht (fun hx => (l a _ hx ht).1 vs k rfl) (S.off ht not_mutable_tup)
theorem VR.stepX (S : SR B h φ σ) (x : StepX X φ φ' h h') (l : ∀ a o, X a → h.get? a = some o → Loose o) {v : Value} {a : AV} (r : VR B h φ v a) : VR B h' φ' v a :=
  r.move (x.tups S l) fun zz zz e => x.more e
theorem VRs.stepX (S : SR B h φ σ) (x : StepX X φ φ' h h') (l : ∀ a o, X a → h.get? a = some o → Loose o) {v : List Value} {a : List AV} (r : VRs B h φ v a) : VRs B h' φ' v a :=
  r.move (x.tups S l) fun zz zz e => x.more e
theorem SR.loose {i : Addr} (S : SR B h φ σ) (k : Heap.ExtBut i h h') (hb : B.hb.get? i = none) (n : ∀ p ∈ φ, i ≠ p.2) (l : ∀ o, h.get? i = some o → Loose o) : SR B h' φ σ := by
  have t : ∀ a vs k, IsT h a vs k → IsT h' a vs k := fun a vs m ht => k a _ (fun q => (l _ (q ▸ ht)).1 vs m rfl) ht
  have m : ∀ (i : Nat) p, φ[i]? = some p → φ[i]? = some p := fun zz zz e => e
  refine ⟨fun b o e => k b o (fun q => by rw [q, hb] at e; cases e) (S.base b o e), S.fresh, S.nodup, S.len, fun j p c e1 e2 => ?_⟩
  have hp : p ∈ φ := List.mem_of_getElem? e1
  have kp : ∀ o, h.get? p.2 = some o → h'.get? p.2 = some o := fun o e => k _ o (fun q => n p hp q.symm) e
  have r := S.cells j p c e1 e2
  cases c with
  | list l =>
    obtain ⟨a, vs, ⟨n, b⟩, c, d⟩ := r
    exact ⟨a, vs, ⟨n, kp _ b⟩, c.move t m, d⟩
  | dict l =>
    obtain ⟨a, kvs, ⟨o, es, ep, b, r⟩, c, d⟩ := r
    exact ⟨a, kvs, ⟨o, es, ep, kp _ b, r⟩, c.move t m, d⟩
  | obj c l' =>
    obtain ⟨a, es, n, b, c, d⟩ := r
    exact ⟨k _ _ (fun q => (l _ (q ▸ a)).2.1 _ _ rfl) a, es, n, kp _ b, c.move t m, d⟩
theorem VR.loose {i : Addr} (k : Heap.ExtBut i h h') (l : ∀ o, h.get? i = some o → Loose o) {v : Value} {a : AV} (r : VR B h φ v a) : VR B h' φ v a :=
  r.move (fun a vs m ht => k a _ (fun q => (l _ (q ▸ ht)).1 vs m rfl) ht) fun zz zz e => e
theorem VRs.loose {i : Addr} (k : Heap.ExtBut i h h') (l : ∀ o, h.get? i = some o → Loose o) {v : List Value} {a : List AV} (r : VRs B h φ v a) : VRs B h' φ v a :=
  r.move (fun a vs m ht => k a _ (fun q => (l _ (q ▸ ht)).1 vs m rfl) ht) fun zz zz e => e
theorem VarAt.loose {i : Addr} (k : Heap.ExtBut i h h') (l : ∀ o, h.get? i = some o → Loose o) {m : Str → Option Value} {y : Str} {a : AV} : VarAt B h φ env m y a → VarAt B h' φ env m y a
  | .inl ⟨e, v, e2, r⟩ => .inl ⟨e, v, e2, r.loose k l⟩
  | .inr ⟨e, c, v, e2, ⟨o, ho, hd⟩, r⟩ => .inr ⟨e, c, v, e2, ⟨o, k _ _ (fun q => (l _ (q ▸ ho)).2.2 _ hd) ho, hd⟩, r.loose k l⟩
theorem FR.loose {i : Addr} (F : FR B env h φ ρ) (k : Heap.ExtBut i h h') (l : ∀ o, h.get? i = some o → Loose o) (hi : env.locals ≠ i) : FR B env h' φ ρ := by
  obtain ⟨off, out, m, hn, hv⟩ := F
  exact ⟨off, out, m, hn.extBut k hi, fun y i a e1 e2 => (hv y i a e1 e2).loose k l⟩
theorem SR.adopt (S : SR B h φ σ) {d : Addr} {c : Cell} (hb : B.hb.get? d = none) (n : ∀ p ∈ φ, d ≠ p.2) (r : CellR B h (φ ++ [(d, d)]) (d, d) c) : SR B h (φ ++ [(d, d)]) (σ ++ [c]) := by
  have m : ∀ (i : Nat) p, φ[i]? = some p → (φ ++ [(d, d)])[i]? = some p := fun i p e => by
    obtain ⟨hi, zz⟩ := List.getElem?_eq_some_iff.mp e
    rw [List.getElem?_append_left hi]; exact e
  have t : ∀ a vs k, IsT h a vs k → IsT h a vs k := fun zz zz zz e => e
  refine ⟨S.base, fun q hq => ?_, ?_, by simp [S.len], fun i q x e1 e2 => ?_⟩
  · rcases List.mem_append.mp hq with hq | hq
    · exact S.fresh q hq
    · rw [List.mem_singleton.mp hq]; exact hb
  · rw [List.map_append, List.nodup_append]
    refine ⟨S.nodup, by simp, fun a ha b hb' e => ?_⟩
    obtain ⟨q, hq, rfl⟩ := List.mem_map.mp ha
    simp at hb'
    exact n q hq (by rw [e, hb'])
  · rcases Nat.lt_or_ge i φ.length with hi | hi
    · rw [List.getElem?_append_left hi] at e1
      rw [List.getElem?_append_left (S.len ▸ hi)] at e2
      have r' := S.cells i q x e1 e2
      cases x with
      | list l =>
        obtain ⟨a, vs, b, c, d⟩ := r'
        exact ⟨a, vs, b, c.move t m, d⟩
      | dict l =>
        obtain ⟨a, kvs, b, c, d⟩ := r'
        exact ⟨a, kvs, b, c.move t m, d⟩
      | obj c l' =>
        obtain ⟨a, es, n, b, c, d⟩ := r'
        exact ⟨a, es, n, b, c.move t m, d⟩
    · rw [List.getElem?_append_right hi] at e1
      rw [List.getElem?_append_right (S.len ▸ hi)] at e2
      have : i - φ.length = 0 := by
        rcases Nat.eq_zero_or_pos (i - φ.length) with z | z
        · exact z
        · rw [List.getElem?_eq_none (show [(d, d)].length ≤ i - φ.length from z)] at e1; cases e1
      rw [this] at e1
      rw [← S.len, this] at e2
      simp at e1 e2
      subst e1 e2
      exact r
end
/-! what is drawn from -/
inductive ItAt (B : Base) (h : Heap) (φ : Links) (I : Addr) : Iter → Nat → Prop
  | list {l : List AV} {c : Nat} {a : Addr} {i : Nat} : φ[c]? = some (a, a) → h.IsListIter I a i → ItAt B h φ I (l, some c) i
  | tup {l : List AV} {a : Addr} {vs : List Value} {k i : Nat} : IsT h a vs.toArray k → VRs B h φ vs l → h.IsTupleIter I a i → ItAt B h φ I (l, none) i
  | range {x y : Int} {i : Nat} : IsRangeIter h I (x + (i : Int)) (((y - x).toNat : Int) - (i : Int)) 1 → ItAt B h φ I (rangeI x y, none) i
  | rev {t : Addr} : h.get? I = some (rvObj t) → ItAt B h φ I ([], none) 0
section
variable {B : Base} {h h' : Heap} {φ φ' : Links} {σ σ' : Store} {X : Addr → Prop} {I : Addr} {it : Iter} {i : Nat}
theorem ItAt.fields (x : ItAt B h φ I it i) : ∃ o vs T, h.get? I = some o ∧ o.data = .fields vs ∧ o.cls = .type T ∧ T ∈ ["list_iterator", "tuple_iterator", "range_iterator", "reversed"] := by
  cases x with
  | list _ y => obtain ⟨o, a, b, c⟩ := y; exact ⟨o, _, _, a, c, b, by simp⟩
  | tup _ _ y => obtain ⟨o, a, b, c⟩ := y; exact ⟨o, _, _, a, c, b, by simp⟩
  | range y => exact ⟨_, _, _, y, rfl, rfl, by simp⟩
  | rev y => exact ⟨_, _, _, y, rfl, rfl, by simp⟩
theorem ItAt.loose (x : ItAt B h φ I it i) : ∀ o, h.get? I = some o → Loose o := fun o e => by
  obtain ⟨o', vs, T, a, b, c, zz⟩ := x.fields
  rw [a] at e; cases e
  exact loose_fields b c
theorem ItAt.off (S : SR B h φ σ) (x : ItAt B h φ I it i) : ∀ p ∈ φ, I ≠ p.2 := by
  obtain ⟨o', vs, T, a, b, c, zz⟩ := x.fields
  refine S.off a ?_
  rintro (⟨_, _, _, e⟩ | ⟨_, _, e⟩) <;> rw [b] at e <;> cases e
theorem ItAt.stepX (S : SR B h φ σ) (x : ItAt B h φ I it i) (y : StepX X φ φ' h h') (l : ∀ a o, X a → h.get? a = some o → Loose o) (hI : ¬ X I) : ItAt B h' φ' I it i := by
  have off := x.off S
  obtain ⟨o', vs, T, a, b, c, zz⟩ := x.fields
  have kI := y.keep I o' a hI off
  cases x with
  | list e q => obtain ⟨o, a', b', c'⟩ := q; rw [a] at a'; cases a'; exact .list (y.more e) ⟨_, kI, b', c'⟩
  | tup t r q => obtain ⟨o, a', b', c'⟩ := q; rw [a] at a'; cases a'; exact .tup (y.tups S l _ _ _ t) (r.stepX S y l) ⟨_, kI, b', c'⟩
  | range q => have q' : h.get? I = some _ := q; rw [a] at q'; cases q'; exact .range kI
  | rev q => have q' : h.get? I = some _ := q; rw [a] at q'; cases q'; exact .rev kI
theorem ItAt.ext {d : Addr} (S : SR B h φ σ) (x : ItAt B h φ I it i) (k : Heap.ExtBut d h h') (he : ∃ o, h'.get? d = some o) (hd : I ≠ d) (l : ∀ o, h.get? d = some o → Loose o) : ItAt B h' φ I it i :=
  x.stepX S (StepX.at (X := fun a => a = d) k rfl he) (fun a o e g => l o (e ▸ g)) hd
theorem ItAt.step (S : SR B h φ σ) (S' : SR B h' φ' σ') (x : ItAt B h φ I it i) (y : Step φ φ' h h') : ItAt B h' φ' I it i :=
  x.stepX S (y.toX (X := fun zz => False) S') (fun zz zz e => e.elim) id
theorem rangeI_get {x y : Int} (j : Nat) : (rangeI x y)[j]? = if (j : Int) < y - x then some (.int (x + j)) else none := by
  unfold rangeI
  rw [List.getElem?_map]
  split
  · rename_i hlt
    rw [List.getElem?_range (by omega)]; rfl
  · rename_i hge
    rw [List.getElem?_eq_none (by rw [List.length_range]; omega)]; rfl
end
section
variable {B : Base} {φ : Links} {σ : Store} {I : Addr} {it : Iter} {i : Nat} {A : Around} {E : Value → Shared → Prop} {s : Shared}
theorem ItAt.next {Q : Option Value → Shared → Prop} (hh : A.handled = none) (S : SR B s.heap φ σ) (x : ItAt B s.heap φ I it i) (hok : it.ok σ = true)
    (hs : ∀ a, it.1[i]? = some a → ∀ h' tk v, Heap.ExtBut I s.heap h' → ItAt B h' φ I it (i + 1) → VR B h' φ v a → Q (some v) { s with heap := h', toks := tk })
    (hn : it.1[i]? = none → ∀ h', Heap.ExtBut I s.heap h' → Q none { s with heap := h' }) : wpAny (model B.prog B.w) A (pyNext (.ref I)) Q E s := by
  have lo := x.loose
  cases x with
  | list e q =>
    rename_i l c a
    unfold Iter.ok at hok
    dsimp only at hok hs hn
    split at hok
    · rename_i l' hl
      have hl' := (AV.eqbs_iff _ _).mp hok
      subst hl'
      obtain ⟨a1, vs1, n1, e1, e2, g1, r1, s1⟩ := VR.list S (VR.cell e) (show listAt σ c = some l' by unfold listAt; rw [hl])
      rw [e] at e2; cases e2
      have hne : a ≠ I := fun q' => by
        obtain ⟨o, a', b', c'⟩ := q
        rw [← q', g1] at a'; cases a'; cases c'
      cases hi : l'[i]? with
      | none =>
        refine wpAny_pyNext_list_end hh q ⟨_, g1, rfl, _, rfl⟩ ?_ (hn hi)
        rw [List.getElem?_toArray, List.getElem?_eq_none_iff, r1.length]; exact List.getElem?_eq_none_iff.mp hi
      | some v =>
        obtain ⟨w, hw, hr⟩ := r1.get hi
        exact wpAny_pyNext_list_item q ⟨_, g1, rfl, _, rfl⟩ (by rw [List.getElem?_toArray]; exact hw) fun h' hit hs' => hs v hi h' s.toks w hs'.extBut (.list e hit) (hr.loose hs'.extBut lo)
    · cases hok
  | tup t r q =>
    rename_i l a vs k
    dsimp only at hs hn
    have hne : a ≠ I := fun q' => by
      obtain ⟨o, a', b', c'⟩ := q
      rw [← q', t] at a'; cases a'; cases c'
    have hT : s.heap.IsTuple a vs.toArray := ⟨_, t, rfl, _, rfl⟩
    cases hi : l[i]? with
    | none =>
      refine wpAny_pyNext_tuple_end hh q hT ?_ (hn hi)
      rw [List.getElem?_toArray, List.getElem?_eq_none_iff, r.length]; exact List.getElem?_eq_none_iff.mp hi
    | some v =>
      obtain ⟨w, hw, hr⟩ := r.get hi
      exact wpAny_pyNext_tuple_item q hT (by rw [List.getElem?_toArray]; exact hw) fun h' hit hs' => hs v hi h' s.toks w hs'.extBut (.tup (hs'.extBut a _ hne t) (r.loose hs'.extBut lo) hit) (hr.loose hs'.extBut lo)
  | range q =>
    rename_i x y
    dsimp only at hs hn
    rw [rangeI_get] at hs hn
    by_cases hlt : (i : Int) < y - x
    · rw [if_pos hlt] at hs
      refine wpAny_pyNext_range_item q (by omega) fun h' hit hs' => hs _ rfl h' _ _ hs'.extBut (.range ?_) (.int _ _)
      have e1 : x + (i : Int) + 1 = x + ((i + 1 : Nat) : Int) := by omega
      have e2 : ((y - x).toNat : Int) - (i : Int) - 1 = ((y - x).toNat : Int) - ((i + 1 : Nat) : Int) := by omega
      rw [e1, e2] at hit
      exact hit
    · rw [if_neg hlt] at hn
      exact wpAny_pyNext_range_end hh q (by omega) (hn rfl)
  | rev q => exact wpAny_pyNext_rvd hh q (hn rfl)
theorem ItAt.go {target : Expr} {v : Value} {Q : Unit → Shared → Prop} (x : ItAt B s.heap φ I it i) (hQ : Q () s) : wpAny (model B.prog B.w) A (letOwnedTupleGo target (.ref I) v) Q E s := by
  obtain ⟨o, vs, T, a, b, c, d⟩ := x.fields
  have fin : ∀ r : Addr, wpAny (model B.prog B.w) A (if (["enumerate", "zip", "dict_itemiterator", "dict_reverseitemiterator", "odict_iterator", "itertools.zip_longest", "itertools.pairwise"].contains T && vs[0]? == some (rawInt r)) = true then do
      rule "for.unpacks-the-owned-tuple"; updateField I 0 .none else pure ()) Q E s := fun r => by
    rw [if_neg ?_]
    · exact wpAny_pure hQ
    · intro hh
      rw [show (["enumerate", "zip", "dict_itemiterator", "dict_reverseitemiterator", "odict_iterator", "itertools.zip_longest", "itertools.pairwise"].contains T) = false from ?_, Bool.false_and] at hh
      · cases hh
      · simp only [List.mem_cons, List.not_mem_nil, or_false] at d
        rcases d with rfl | rfl | rfl | rfl <;> decide
  unfold letOwnedTupleGo
  cases target <;> first
    | exact wpAny_pure hQ
    | (cases v <;> first
        | exact wpAny_pure hQ
        | (refine wpAny_bind (wpAny_load a ?_)
           rw [c, b]
           exact fin _))
end
end Mine
end
-- R14
section
namespace Mine
open PySem PySem.W PySem.Calls PyProof.Rows PySem.SeqAt
noncomputable def ItOk (B : Base) (n : Nat) (env : PySem.Env) (r : Vars → Store → Option (Iter × Store)) (iter : Expr) : Prop :=
  ∀ (A : Around) (ρ : Vars) (σ : Store) (φ : Links) (s : Shared) (it : Iter) (σ' : Store) (Q : Value → Shared → Prop) (E : Value → Shared → Prop), AOk A n → r ρ σ = some (it, σ') → SR B s.heap φ σ → FR B env s.heap φ ρ →
    (∀ h' tk φ' I, Step φ φ' s.heap h' → s.heap.get? I = none → SR B h' φ' σ' → ItAt B h' φ' I it 0 → Q (.ref I) { s with heap := h', toks := tk }) →
    wpAny (model B.prog B.w) A (eval iter env) (fun x s₁ => wpAny (model B.prog B.w) A (pyIter x) Q E s₁) E s
section
variable {B : Base} {n : Nat} {C : Handler} {env : PySem.Env} {sc : List (Str × NameKind)}
theorem one_int {α : Type} {f : Int → Option α} {l : List AV} {r : α} (e : (match l with | [.int x] => f x | _ => none) = some r) : ∃ x, l = [.int x] ∧ f x = some r := by
  cases l with
  | nil => exact no e
  | cons a l => cases a with
    | int x => cases l with
      | nil => exact ⟨x, rfl, e⟩
      | cons _ _ => exact no e
    | _ => exact no e
theorem two_ints {α : Type} {f : Int → Int → Option α} {l : List AV} {r : α} (e : (match l with | [.int x, .int y] => f x y | _ => none) = some r) : ∃ x y, l = [.int x, .int y] ∧ f x y = some r := by
  cases l with
  | nil => exact no e
  | cons a l => cases a with
    | int x => cases l with
      | nil => exact no e
      | cons b l => cases b with
        | int y => cases l with
          | nil => exact ⟨x, y, rfl, e⟩
          | cons _ _ => exact no e
        | _ => exact no e
    | _ => exact no e
theorem get_none_of_size {h h' : Heap} (k : ∀ a o, h.get? a = some o → h'.get? a = some o) {a : Addr} (e : h'.get? a = none) : h.get? a = none := by
  cases q : h.get? a with
  | none => rfl
  | some o => rw [k a o q] at e; cases e
theorem Step.none_before {φ φ' : Links} {h h' : Heap} {σ' : Store} (x : Step φ φ' h h') (S' : SR B h' φ' σ') {a : Addr} (e : h'.get? a = none) : h.get? a = none := by
  cases q : h.get? a with
  | none => rfl
  | some o => obtain ⟨o', ho'⟩ := (x.toX (X := fun zz => False) S').has a o q; rw [e] at ho'; cases ho'
theorem iterPlain {iter : Expr} {f : Run} (I1 : EvOk B n env f (eval iter env)) : ItOk B n env (fun ρ σ => (f ρ σ).bind fun a => (iterV a.1 a.2).map fun it => (it, a.2)) iter := fun A ρ σ φ s it σ' Q E ok e S F k => by
  obtain ⟨⟨a, σ1⟩, hp, e1⟩ := bindS e
  obtain ⟨q, hq, e2⟩ := mapS e1
  cases e2
  clear e e1
  refine I1 A ρ σ φ s a σ1 _ E ok hp S F fun v h' tk φ' st S' hv => ?_
  have kk : ∀ o, ∀ a x, h'.get? a = some x → (h'.push o).get? a = some x := fun o a x e => Heap.get?_push_of_some _ e
  clear hp
  cases a with
  | tup l =>
    cases hq
    obtain ⟨a0, vs0, k0, rfl, ht, r, hlim⟩ := hv.inv
    refine wpAny_pyIter_tuple (items := List.toArray _) ⟨_, ht, rfl, _, rfl⟩ ?_
    have st2 := Step.of_grow (φ := φ') (kk { cls := .type "tuple_iterator", data := .fields #[.ref a0, .int 0 0] })
    exact k _ tk φ' _ (st.trans S' st2) (Step.none_before st S' (get_size_none _)) (S'.grow (kk _)) (.tup (kk _ _ _ ht) (r.step S' st2) ⟨_, Heap.get?_push_size _ rfl, rfl, rfl⟩)
  | cell c =>
    obtain ⟨l, hl, hq1⟩ := mapS hq
    cases hq1
    obtain ⟨a1, vs1, n1, rfl, e2, g1, r1, s1⟩ := VR.list (s := { s with heap := h', toks := tk }) S' hv hl
    refine wpAny_pyIter_list (items := List.toArray vs1) ⟨_, g1, rfl, _, rfl⟩ ?_
    have st2 := Step.of_grow (φ := φ') (kk { cls := .type "list_iterator", data := .fields #[.ref a1, .int 0 0] })
    exact k _ tk φ' _ (st.trans S' st2) (Step.none_before st S' (get_size_none _)) (S'.grow (kk _)) (.list e2 ⟨_, Heap.get?_push_size _ rfl, rfl, rfl⟩)
  | _ => exact no hq
theorem range_small {a b : Int} (ha : a.natAbs ≤ lim) (hb : b.natAbs ≤ lim) : Builtin.Range.small a b 1 = true := by
  have a1 := le_ab ha
  have a2 := ge_ab ha
  have b1 := le_ab hb
  have b2 := ge_ab hb
  unfold lim at a1 a2 b1 b2
  exact small_one (by omega) (by omega) (by omega) (by omega)
variable (O : EnvOk env sc) (G : Good B)
include O G
theorem iterRange {g : Str} {gp pos : Pos} {es : List Expr} (hk : kindIn g sc = some .globalImplicit) (hg : biOf g = some .range) {ce : IE} (I : EsOk B n C env es ce) :
    ItOk B n env (fun ρ σ => (asL (runE B.ns C ce) ρ σ).bind fun a => (match a.1 with
        | [.int x] => if x.natAbs ≤ lim then some ((rangeI 0 x, none), a.2) else none
        | _ => none)) (.Call (.Name g gp) es [] pos) := fun A ρ σ φ s it σ' Q E ok e S F k => by
  obtain ⟨⟨l, σ1⟩, hp, e1⟩ := bindS e
  clear e
  obtain ⟨x, rfl, e1⟩ := one_int e1
  · obtain ⟨hlim, e1⟩ := ifS e1
    cases e1
    refine wpAny_Call_NameR (globalOk O G hk S (v := BI.range.value) (fun mg mb zz zz zz zz g5 => .inr (by rw [biOf_name hg]; exact g5 .range)) ?_)
    refine callOk (first := []) I ok G (fun h zz => keep_bi .range _ h) hp S F fun vs h' tk φ' st S' hv => ?_
    obtain ⟨v, rfl, hw⟩ := hv.inv1
    obtain ⟨t, rfl⟩ := hw.inv
    refine call_range_1 ?_
    refine wpAny_pyIter_range (Heap.get?_push_size _ rfl) (range_small (by decide) hlim) ?_
    have kk : ∀ o, ∀ a x, h'.get? a = some x → (h'.push o).get? a = some x := fun o a x e => Heap.get?_push_of_some _ e
    have kk2 : ∀ o o', ∀ a x, h'.get? a = some x → ((h'.push o).push o').get? a = some x := fun o o' a x e => Heap.get?_push_of_some _ (kk o a x e)
    refine k _ _ φ' _ (st.trans S' (Step.of_grow (kk2 _ _))) (Step.none_before st S' ?_) (S'.grow (kk2 _ _)) (.range (x := 0) (y := x) ?_)
    · exact get_none_of_size (kk _) (get_size_none _)
    · show Heap.get? _ _ = _
      rw [Heap.get?_push_size _ rfl, rangeSize_nat 0 x]
      simp
theorem iterRev {g : Str} {gp pos : Pos} {es : List Expr} (hk : kindIn g sc = some .globalImplicit) (hg : biOf g = some .reversed) {ce : IE} (I : EsOk B n C env es ce) :
    ItOk B n env (fun ρ σ => (asL (runE B.ns C ce) ρ σ).bind fun a => (match a.1 with
        | [.tup []] => some (([], none), a.2)
        | _ => none)) (.Call (.Name g gp) es [] pos) := fun A ρ σ φ s it σ' Q E ok e S F k => by
  obtain ⟨⟨l, σ1⟩, hp, e1⟩ := bindS e
  clear e
  cases l with
  | nil => exact no e1
  | cons a l => cases a with
    | tup l2 => cases l2 with
      | cons _ _ => exact no e1
      | nil => cases l with
        | cons _ _ => exact no e1
        | nil =>
          cases e1
          refine wpAny_Call_NameR (globalOk O G hk S (v := BI.reversed.value) (fun mg mb zz zz zz zz g5 => .inr (by rw [biOf_name hg]; exact g5 .reversed)) ?_)
          refine callOk (first := []) I ok G (fun h zz => keep_bi .reversed _ h) hp S F fun vs h' tk φ' st S' hv => ?_
          obtain ⟨v, rfl, hw⟩ := hv.inv1
          obtain ⟨a0, vs0, k0, rfl, ht, r, hl⟩ := hw.inv
          obtain rfl := r.inv0
          refine call_rvd ht fun tk' => ?_
          refine wpAny_pyIter_rvd (Heap.get?_push_size _ rfl) ?_
          have kk : ∀ o, ∀ a x, h'.get? a = some x → (h'.push o).get? a = some x := fun o a x e => Heap.get?_push_of_some _ e
          exact k _ _ φ' _ (st.trans S' (Step.of_grow (kk _))) (Step.none_before st S' (get_size_none _)) (S'.grow (kk _)) (.rev (Heap.get?_push_size _ rfl))
    | _ => exact no e1
theorem listRangeE {f g : Str} {fp gp pos pos2 : Pos} {es : List Expr} (hkf : kindIn f sc = some .globalImplicit) (hgf : biOf f = some .list) (hk : kindIn g sc = some .globalImplicit) (hg : biOf g = some .range) {ce : IE} (I : EsOk B n C env es ce) :
    EvOk B n env (fun ρ σ => (asL (runE B.ns C ce) ρ σ).bind fun a => (match a.1 with
        | [.int x, .int y] => if x.natAbs ≤ 500000 ∧ y.natAbs ≤ 500000 then some (newCell (.list (rangeI x y)) a.2) else none
        | _ => none)) (eval (.Call (.Name f fp) [.Call (.Name g gp) es [] pos2] [] pos) env) := fun A ρ σ φ s a σ' Q E ok e S F k => by
  obtain ⟨⟨l, σ1⟩, hp, e1⟩ := bindS e
  clear e
  obtain ⟨x, y, rfl, e1⟩ := two_ints e1
  obtain ⟨hlim, e1⟩ := ifS e1
  cases e1
  refine wpAny_Call_NameR (globalOk O G hkf S (v := BI.list.value) (fun mg mb zz zz zz zz g5 => .inr (by rw [biOf_name hgf]; exact g5 .list)) ?_)
  refine callWith_of (P := fun h => B.K.In h) rfl (fun h zz => keep_bi .list _ h) ?_
  refine Calls.evalArgs_plain (Calls.spliced_cons ?_)
  refine wpAny_Call_NameR (globalOk O G hk S (v := BI.range.value) (fun mg mb zz zz zz zz g5 => .inr (by rw [biOf_name hg]; exact g5 .range)) ?_)
  refine callOk (first := []) I ok G (fun h zz => keep_bi .range _ h) hp S F fun vs h' tk φ' st S' hv => ?_
  obtain ⟨v1, vs, rfl, hv1, hr⟩ := hv.inv
  obtain ⟨t1, rfl⟩ := hv1.inv
  obtain ⟨v2, rfl, hv2⟩ := hr.inv1
  obtain ⟨t2, rfl⟩ := hv2.inv
  refine call_range_2 ?_
  refine Calls.spliced_nil ?_
  have kk : ∀ o, ∀ a x, h'.get? a = some x → (h'.push o).get? a = some x := fun o a x e => Heap.get?_push_of_some _ e
  have S2 := S'.grow (kk { cls := .type "range", data := .fields #[.int x t1, .int y t2, .int 1 tk] })
  refine ⟨S2.kin G, ?_⟩
  exact rangeListOk ok hlim.1 hlim.2 S2 (Heap.get?_push_size _ rfl) ((k.after S' st).after S2 (Step.of_grow (kk _)))
end
end Mine
end
-- R15
section
namespace Mine
open PySem PySem.W PySem.Calls PyProof.Rows PySem.SeqAt
section
variable {B : Base} {n : Nat} {C : Handler} {env : PySem.Env} {sc : List (Str × NameKind)}
theorem closure_ok {env : PySem.Env} {scope : Scope} (h : ∀ p ∈ scope.names, p.2 = .free → ∃ c, env.cells.lookup p.1 = some c) :
    ∃ cl, closureFor scope env = pure cl ∧ ∀ p ∈ scope.names, p.2 = .free → cl.lookup p.1 = env.cells.lookup p.1 := by
  have gen : ∀ (names : List (Str × NameKind)) (acc : List (Str × Addr)), (∀ p ∈ names, p.2 = .free → ∃ c, env.cells.lookup p.1 = some c) → (∀ y c, acc.lookup y = some c → env.cells.lookup y = some c) →
      ∃ cl, (forIn names acc fun p cs => if (p.2 == NameKind.free) = true then (do let c ← cellOf env p.1; pure (ForInStep.yield ((p.1, c) :: cs)) : Sem (ForInStep (List (Str × Addr)))) else pure (ForInStep.yield cs)) = pure cl ∧
        (∀ y c, acc.lookup y = some c → cl.lookup y = some c) ∧ ∀ p ∈ names, p.2 = .free → cl.lookup p.1 = env.cells.lookup p.1 := by
    intro names
    induction names with
    | nil => intro acc _ _; exact ⟨acc, rfl, fun zz zz e => e, by simp⟩
    | cons p r ih =>
      intro acc h1 h2
      obtain ⟨x, k⟩ := p
      by_cases hk : k = .free
      · subst hk
        obtain ⟨c, hc⟩ := h1 (x, .free) (.head _) rfl
        have h3 : ∀ y d, List.lookup y ((x, c) :: acc) = some d → env.cells.lookup y = some d := fun y d e => by
          rw [List.lookup_cons] at e
          split at e
          · rename_i hxy; cases e; rw [beq_iff_eq.mp hxy]; exact hc
          · exact h2 y d e
        obtain ⟨cl, e1, e2, e3⟩ := ih ((x, c) :: acc) (fun p hp => h1 p (.tail _ hp)) h3
        have hx : cl.lookup x = some c := e2 x c (by rw [List.lookup_cons]; simp)
        refine ⟨cl, ?_, fun y d e => ?_, fun p hp hf => ?_⟩
        · rw [List.forIn_cons]
          simp only [beq_self_eq_true, if_true, cellOf, hc, pure_bind]
          exact e1
        · by_cases hxy : y = x
          · subst hxy
            rw [hx]
            have := h2 _ _ e
            rw [hc] at this; exact this
          · exact e2 y d (by rw [List.lookup_cons, beq_false_of_ne hxy]; exact e)
        · rcases List.mem_cons.mp hp with rfl | hp
          · dsimp only; rw [hx, hc]
          · exact e3 p hp hf
      · obtain ⟨cl, e1, e2, e3⟩ := ih acc (fun p hp => h1 p (.tail _ hp)) h2
        refine ⟨cl, ?_, e2, fun p hp hf => ?_⟩
        · rw [List.forIn_cons]
          have : (k == NameKind.free) = false := by simpa using hk
          simp only [this, Bool.false_eq_true, if_false, pure_bind]
          exact e1
        · rcases List.mem_cons.mp hp with rfl | hp
          · exact absurd hf hk
          · exact e3 p hp hf
  obtain ⟨cl, e1, zz, e3⟩ := gen scope.names [] h (by simp)
  refine ⟨cl, ?_, e3⟩
  have : closureFor scope env = (forIn scope.names [] fun (p : Str × NameKind) cs => if (p.2 == NameKind.free) = true then (do let c ← cellOf env p.1; pure (ForInStep.yield ((p.1, c) :: cs)) : Sem (ForInStep (List (Str × Addr)))) else pure (ForInStep.yield cs)) >>= fun s => pure s := rfl
  rw [this, e1]
  rfl
theorem tests_done {env : PySem.Env} : ∀ ifs : List Expr, (forIn ifs false fun c r => if r = true then do let ok ← isTrue c env (eval c env); pure (ForInStep.yield ok) else pure (ForInStep.yield r)) = (pure false : Sem Bool)
  | [] => rfl
  | c :: r => by
    rw [List.forIn_cons, if_neg (by simp), pure_bind]
    exact tests_done r
theorem place_comp {x : Str} : ∀ {l : List (Str × NameKind)}, place x (compNames l) = place x l
  | [] => rfl
  | p :: r => by
    show (if seq p.1 x = true then some 0 else (place x (compNames r)).map (· + 1)) = (if seq p.1 x = true then some 0 else (place x r).map (· + 1))
    rw [place_comp]
theorem comp_get {l : List (Str × NameKind)} {i : Nat} : (compNames l)[i]? = (l[i]?).map fun p => (p.1, match p.2 with | .free => NameKind.cell | k => k) := by
  unfold compNames; rw [List.getElem?_map]; first | done | rfl
theorem relabel_names {env : PySem.Env} {sc : List (Str × NameKind)} (O : EnvOk env sc) {scope : Scope} (h : scopeOk sc scope = true) : (relabel scope env).names = compNames scope.names := by
  unfold relabel compNames
  dsimp only
  refine List.map_congr_left fun p hp => ?_
  obtain ⟨x, k⟩ := p
  unfold scopeOk at h
  have h2 := List.all_eq_true.mp (Bool.and_eq_true_iff.mp h).2 _ hp
  cases k <;> try rfl
  dsimp only at h2 ⊢
  have h3 := kindOf_of O (of_decide_eq_true h2)
  rw [h3, O.kind]
  rfl
theorem tests_nil {env : PySem.Env} : EvBOk B n env (asB (runE B.ns C (.bool true))) (forIn ([] : List Expr) true fun c r => if r = true then do let ok ← isTrue c env (eval c env); pure (ForInStep.yield ok) else pure (ForInStep.yield r)) := fun A ρ σ φ s a σ' Q E ok e S F k => by
  cases e
  exact wpAny_pure (k s.heap s.toks φ (Step.refl _ _) S)
theorem asB_ofB {f : RunB} {ρ : Vars} {σ : Store} : asB (ofB f) ρ σ = f ρ σ := by
  unfold asB ofB
  cases f ρ σ <;> rfl
theorem tests_cons {env : PySem.Env} {c : Expr} {r : List Expr} {a b : IE} (I1 : EvBOk B n env (asB (runE B.ns C a)) (isTrue c env (eval c env))) (I2 : EvBOk B n env (asB (runE B.ns C b)) (forIn r true fun c r => if r = true then do let ok ← isTrue c env (eval c env); pure (ForInStep.yield ok) else pure (ForInStep.yield r))) :
    EvBOk B n env (asB (runE B.ns C (.tand a b))) (forIn (c :: r) true fun c r => if r = true then do let ok ← isTrue c env (eval c env); pure (ForInStep.yield ok) else pure (ForInStep.yield r)) := fun A ρ σ φ s x σ' Q E ok e S F k => by
  have e := asB_ofB.symm.trans e
  obtain ⟨p, hp, e⟩ := Option.bind_eq_some_iff.mp e
  rw [List.forIn_cons]
  refine wpAny_bind ?_
  rw [if_pos rfl]
  refine wpAny_bind (I1 A ρ σ φ s p.1 p.2 _ E ok hp S F fun h' tk φ' st S' => wpAny_pure ?_)
  obtain ⟨c, σ2⟩ := p
  cases c with
  | true => exact I2 A ρ σ2 φ' { s with heap := h', toks := tk } x σ' Q E ok ((if_neg dAt).symm.trans e) S' (F.step S st) (k.after S' st)
  | false =>
    cases (if_pos dAf).symm.trans e
    dsimp only
    rw [tests_done]
    exact wpAny_pure (k h' tk φ' st S')
end
end Mine
end
-- R16
section
namespace Mine
open PySem PySem.W PySem.Calls PyProof.Rows PySem.SeqAt
section
variable {B : Base} {n : Nat} {C : Handler} {env : PySem.Env} {sc : List (Str × NameKind)}
theorem FR.looseAt {h : Heap} {φ : Links} {ρ : Vars} (F : FR B env h φ ρ) : ∀ o, h.get? env.locals = some o → Loose o := by
  obtain ⟨m, hm, zz⟩ := F.vars
  exact loose_ns hm
theorem FR.has {h : Heap} {φ : Links} {ρ : Vars} (F : FR B env h φ ρ) : ∃ o, h.get? env.locals = some o := by
  obtain ⟨m, ⟨o, zz, zz, ho, zz⟩, zz⟩ := F.vars
  exact ⟨o, ho⟩
theorem storeOk (O : EnvOk env sc) {x : Str} {v : Value} {a : AV} {ρ ρ' : Vars} {σ : Store} {φ : Links} {s : Shared} {A : Around} {Q : Unit → Shared → Prop} {E : Value → Shared → Prop} (e : setVar sc x a ρ = some ρ')
    (S : SR B s.heap φ σ) (F : FR B env s.heap φ ρ) (hv : VR B s.heap φ v a)
    (k : ∀ h' tk, Heap.SameBut env.locals s.heap h' → SR B h' φ σ → FR B env h' φ ρ' → Q () { s with heap := h', toks := tk }) : wpAny (model B.prog B.w) A (storeName env x v) Q E s := by
  unfold setVar at e
  split at e
  · rename_i hk
    obtain ⟨j, hj, e1⟩ := mapS e
    cases e1
    obtain ⟨m, hm, hvars⟩ := F.vars
    have lo := F.looseAt
    refine wpAny_storeName_local (kindOf_of O hk) hm (fun h' hn hs => ?_) (by rw [O.kind]; rfl)
    have S' : SR B h' φ σ := S.loose hs.extBut F.out F.off lo
    refine k h' _ hs S' ⟨F.off, F.out, _, hn, fun y i b e1 e2 => ?_⟩
    have hjl : j < sc.length := by
      obtain ⟨zz, h1, zz⟩ := place_lookup hj
      exact (List.getElem?_eq_some_iff.mp h1).1
    by_cases hij : j = i
    · subst hij
      have hxy : y = x := by rw [O.names] at e1; exact place_inj e1 hj
      subst hxy
      have hb : b = a := by
        rw [List.getElem?_set] at e2
        split at e2
        · split at e2
          · simpa using e2.symm
          · simp at e2
        · rename_i h; exact absurd rfl h
      subst hb
      exact .inl ⟨kindOf_of O hk, v, if_pos rfl, hv.loose hs.extBut lo⟩
    · rw [List.getElem?_set_ne hij] at e2
      have hxy : y ≠ x := fun q => by
        subst q
        rw [O.names, hj] at e1
        exact hij (by simpa using e1)
      rcases (hvars y i b e1 e2).loose hs.extBut lo with ⟨a1, w, a2, a3⟩ | r
      · exact .inl ⟨a1, w, by simp only [if_neg hxy]; exact a2, a3⟩
      · exact .inr r
  · cases e
theorem drop_cons {α : Type} {l : List α} {i : Nat} {a : α} {r : List α} (h : l.drop i = a :: r) : l[i]? = some a ∧ r = l.drop (i + 1) := by
  have h1 : i < l.length := by
    rcases Nat.lt_or_ge i l.length with h1 | h1
    · exact h1
    · rw [List.drop_eq_nil_of_le h1] at h; cases h
  rw [List.drop_eq_getElem_cons h1] at h
  simp only [List.cons.injEq] at h
  exact ⟨by rw [List.getElem?_eq_getElem h1, h.1], h.2.symm⟩
theorem drop_nil {α : Type} {l : List α} {i : Nat} (h : l.drop i = []) : l[i]? = none := List.getElem?_eq_none (by simpa using h)
inductive CompAt (B : Base) (cenv : PySem.Env) (cn : List (Str × NameKind)) (x : Str) (T : RunB) (L : Run) (it : Iter) (I D : Addr) (s : Shared) (φ : Links) (res : List AV × Store) : Nat → Shared → Prop
  | mk {h : Heap} {tk : Nat} {φ₁ : Links} {ρ₁ : Vars} {σ₁ : Store} {acc : List AV} {vs : List Value} {i : Nat} : StepX (fun a => a = I ∨ a = D ∨ a = cenv.locals) φ φ₁ s.heap h → SR B h φ₁ σ₁ → FR B cenv h φ₁ ρ₁ → ItAt B h φ₁ I it i →
      h.PlainList D (List.toArray vs) → VRs B h φ₁ vs acc → acc.length ≤ lim → (∀ p ∈ φ₁, D ≠ p.2) → compV (setVar cn x) T L it (it.1.drop i) acc ρ₁ σ₁ = some res →
      CompAt B cenv cn x T L it I D s φ res (it.1.drop i).length { s with heap := h, toks := tk }
theorem compLoopOk {cenv : PySem.Env} {cn : List (Str × NameKind)} (O : EnvOk cenv cn) {x : Str} {px pos : Pos} {iter elt : Expr} {ifs : List Expr} {scope : Scope} {T : RunB} {L : Run}
    (IT : EvBOk B n cenv T (forIn ifs true fun c r => if r = true then do let ok ← isTrue c cenv (eval c cenv); pure (ForInStep.yield ok) else pure (ForInStep.yield r)))
    (IE : EvOk B n cenv L (eval elt cenv)) {A : Around} (ok : AOk A n) {it : Iter} {I D : Addr} {s : Shared} {φ : Links} {σ : Store} (S0 : SR B s.heap φ σ)
    (nI : s.heap.get? I = none) (nD : s.heap.get? D = none) (nL : s.heap.get? cenv.locals = none) (hID : I ≠ D) (hIL : cenv.locals ≠ I) (hDL : cenv.locals ≠ D) {res : List AV × Store} {R : Result → Shared → Prop}
    (fin : ∀ h tk φ' vs, StepX (fun a => a = I ∨ a = D ∨ a = cenv.locals) φ φ' s.heap h → SR B h φ' res.2 → h.PlainList D (List.toArray vs) → VRs B h φ' vs res.1 → res.1.length ≤ lim → (∀ p ∈ φ', D ≠ p.2) → (∀ p ∈ φ', cenv.locals ≠ p.2) →
      (∃ m, h.Ns cenv.locals m) → R (.ok .next) { s with heap := h, toks := tk }) :
    ∀ {h : Heap} {tk : Nat} {φ₁ : Links} {ρ₁ : Vars} {σ₁ : Store} {acc : List AV} {vs : List Value} {i : Nat}, StepX (fun a => a = I ∨ a = D ∨ a = cenv.locals) φ φ₁ s.heap h → SR B h φ₁ σ₁ → FR B cenv h φ₁ ρ₁ → ItAt B h φ₁ I it i →
      h.PlainList D (List.toArray vs) → VRs B h φ₁ vs acc → acc.length ≤ lim → (∀ p ∈ φ₁, D ≠ p.2) → compV (setVar cn x) T L it (it.1.drop i) acc ρ₁ σ₁ = some res →
      codeAny (model B.prog B.w) A (.compLoop (.ListComp elt [⟨.Name x px, iter, ifs, 0⟩] scope pos) 0 (.ref I) (.ref D) cenv) R { s with heap := h, toks := tk } := by
  intro h tk φ₁ ρ₁ σ₁ acc vs i x1 S1 F1 t1 l1 v1 z1 d1 e1
  have hbI : B.hb.get? I = none := S0.base_none nI
  have hbD : B.hb.get? D = none := S0.base_none nD
  refine codeAny_compLoop_tests (CompAt B cenv cn x T L it I D s φ res) ?_ (it.1.drop i).length (.mk x1 S1 F1 t1 l1 v1 z1 d1 e1)
  clear x1 S1 F1 t1 l1 v1 z1 d1 e1 h tk φ₁ ρ₁ σ₁ acc vs i
  intro m s' X
  cases X with
  | @mk h tk φ₁ ρ₁ σ₁ acc vs i x1 S1 F1 t1 l1 v1 z1 d1 e1 => ?_
  have loI := t1.loose
  have offI := t1.off S1
  have hok : it.ok σ₁ = true := by
    cases hd : it.1.drop i with
    | nil => rw [hd] at e1; exact (ifS e1).1
    | cons a r => rw [hd] at e1; exact (ifS e1).1
  refine ItAt.next ok.1 S1 t1 hok (fun a ha h' tk' v k1 t2 hv => ?_) (fun hn h' k1 => ?_)
  · have S2 := S1.loose k1 hbI offI loI
    have F2 := F1.loose k1 loI hIL
    have x2 := x1.last nI k1
    have l2 := l1.extBut k1 (Ne.symm hID)
    have v2 := v1.loose k1 loI
    cases hd : it.1.drop i with
    | nil => rw [drop_nil hd] at ha; cases ha
    | cons a' rest =>
      obtain ⟨ha', hrest⟩ := drop_cons hd
      rw [ha] at ha'; cases ha'
      rw [hd] at e1
      obtain ⟨ρ', hset, e2⟩ := bindS (ifS e1).2
      obtain ⟨p, hp, e3⟩ := bindS e2
      clear e1 e2
      dsimp only
      refine wpAny_assign_Name (storeOk (s := { s with heap := h', toks := tk' }) O hset S2 F2 hv fun h3 tk3 k3 S3 F3 => ?_)
      have loL := F2.looseAt
      have x3 : StepX (fun a => a = I ∨ a = D ∨ a = cenv.locals) φ φ₁ s.heap h3 := x2.trans (StepX.at k3.extBut (.inr (.inr rfl)) F3.has)
      have t3 := t2.ext S2 k3.extBut F3.has (Ne.symm hIL) loL
      have l3 := l2.extBut k3.extBut (Ne.symm hDL)
      have v3 := v2.loose k3.extBut loL
      refine IT A ρ' σ₁ φ₁ { s with heap := h3, toks := tk3 } p.1 p.2 _ _ ok hp S3 F3 fun h4 tk4 φ4 st4 S4 => ?_
      have F4 := F3.step S3 st4
      have x4 := x3.trans (st4.toX S4)
      have t4 := t3.step S3 S4 st4
      obtain ⟨nn, gl3⟩ := l3
      have d4 : ∀ p ∈ φ4, D ≠ p.2 := (st4.toX (X := fun zz => False) S4).off gl3 d1
      have l4 : h4.PlainList D (List.toArray vs) := ⟨nn, st4.keep _ _ gl3 d1⟩
      have v4 := v3.step S3 st4
      cases hc : p.1 with
      | false =>
        rw [hc] at e3
        rw [hrest] at e3
        exact ⟨_, by rw [hrest]; exact Nat.lt_succ_self _, .mk x4 S4 F4 t4 l4 v4 z1 d4 e3⟩
      | true =>
        rw [hc] at e3
        obtain ⟨q, hq, e4⟩ := bindS e3
        clear e3
        · obtain ⟨hlt, e4⟩ := ifS e4
          refine IE A ρ' p.2 φ4 { s with heap := h4, toks := tk4 } q.1 q.2 _ _ ok hq S4 F4 fun w h5 tk5 φ5 st5 S5 hw => ?_
          have F5 := F4.step S4 st5
          have x5 := x4.trans (st5.toX S5)
          have t5 := t4.step S4 S5 st5
          obtain ⟨nn4, gl4⟩ := l4
          have d5 : ∀ p ∈ φ5, D ≠ p.2 := (st5.toX (X := fun zz => False) S5).off gl4 d4
          have l5 : h5.PlainList D (List.toArray vs) := ⟨nn4, st5.keep _ _ gl4 d4⟩
          have v5 := v4.step S4 st5
          refine wpAny_list_append_plain l5 (fun h6 l6 k6 => ?_) (by rw [List.size_toArray, v5.length]; exact lim_line z1)
          have loD : ∀ o, h5.get? D = some o → Loose o := fun o e => by
            obtain ⟨nn5, gl5⟩ := l5
            rw [gl5] at e; cases e; exact loose_list
          have S6 := S5.loose k6.extBut hbD d5 loD
          obtain ⟨n6, g6⟩ := l6
          have x6 : StepX (fun a => a = I ∨ a = D ∨ a = cenv.locals) φ φ5 s.heap h6 := x5.trans (StepX.at k6.extBut (.inr (.inl rfl)) ⟨_, g6⟩)
          rw [hrest] at e4
          rw [List.push_toArray] at g6
          exact ⟨_, by rw [hrest]; exact Nat.lt_succ_self _, .mk x6 S6 (F5.loose k6.extBut loD hDL) (t5.ext S5 k6.extBut ⟨_, g6⟩ hID loD) ⟨n6, g6⟩
            ((v5.append (.cons hw .nil)).loose k6.extBut loD) (by rw [List.length_append]; exact hlt) d5 e4⟩
  · cases hd : it.1.drop i with
    | cons a' rest =>
      obtain ⟨ha', hrest⟩ := drop_cons hd
      rw [ha'] at hn; cases hn
    | nil =>
      rw [hd] at e1
      cases (ifS e1).2
      obtain ⟨m, hm, zz⟩ := F1.vars
      exact fin h' tk φ₁ vs (x1.last nI k1) (S1.loose k1 hbI offI loI) (l1.extBut k1 (Ne.symm hID)) (v1.loose k1 loI) z1 d1 F1.off ⟨m, hm.extBut k1 hIL⟩
end
end Mine
end
-- R17
section
namespace Mine
open PySem PySem.W PySem.Calls PyProof.Rows PySem.SeqAt
section
variable {B : Base} {n : Nat} {C : Handler} {env : PySem.Env} {sc : List (Str × NameKind)}
theorem ItAt.self {φ : Links} {I : Addr} {it : Iter} {i : Nat} {A : Around} {E : Value → Shared → Prop} {s : Shared} {Q : Value → Shared → Prop} (x : ItAt B s.heap φ I it i) (h : Q (.ref I) s) : wpAny (model B.prog B.w) A (pyIter (.ref I)) Q E s := by
  cases x with
  | list _ q => exact wpAny_pyIter_listiter q h
  | tup _ _ q => exact wpAny_pyIter_tupleiter q h
  | range q => exact wpAny_pyIter_rangeiter q h
  | rev q => exact wpAny_pyIter_rvd q h
theorem scope_facts {scope : Scope} (h : scopeOk sc scope = true) : scope.kind = .function ∧ place "__debug__" (compNames scope.names) = none ∧ (∀ p ∈ scope.names, p.2 ≠ .cell) ∧ (∀ p ∈ scope.names, p.2 = .local → scope.names.lookup p.1 = some .local) ∧
    (∀ p ∈ scope.names, p.2 = .free → kindIn p.1 sc = some .cell) := by
  unfold scopeOk at h
  obtain ⟨h1, h2⟩ := Bool.and_eq_true_iff.mp h
  obtain ⟨h3, h4⟩ := Bool.and_eq_true_iff.mp h1
  have h5 := List.all_eq_true.mp h2
  refine ⟨of_decide_eq_true h3, of_decide_eq_true h4, fun p hp e => ?_, fun p hp e => ?_, fun p hp e => ?_⟩
  · have := h5 p hp; rw [e] at this; cases this
  · have := h5 p hp; rw [e] at this; exact kindIn_lookup (of_decide_eq_true this)
  · have := h5 p hp; rw [e] at this; exact of_decide_eq_true this
theorem lcE {x : Str} {px pos : Pos} {iter elt : Expr} {ifs : List Expr} {scope : Scope} {fI : Vars → Store → Option (Iter × Store)} {T : RunB} {L : Run} (O : EnvOk env sc) (hsc : scopeOk sc scope = true) (hfold : ∀ x, foldedSetIterable iter env x = pure x) (I0 : ItOk B n env fI iter)
    (IT : ∀ cenv, EnvOk cenv (compNames scope.names) → EvBOk B n cenv T (forIn ifs true fun c r => if r = true then do let ok ← isTrue c cenv (eval c cenv); pure (ForInStep.yield ok) else pure (ForInStep.yield r)))
    (IE : ∀ cenv, EnvOk cenv (compNames scope.names) → EvOk B n cenv L (eval elt cenv)) :
    EvOk B n env (fun ρ σ => if freeSet sc ρ scope.names then (fI ρ σ).bind fun it => (compV (setVar (compNames scope.names) x) T L it.1 it.1.1 [] (compVars sc ρ scope.names) it.2).map fun r => newCell (.list r.1) r.2 else none)
      (eval (.ListComp elt [⟨.Name x px, iter, ifs, 0⟩] scope pos) env) := fun A ρ σ φ s a σ' Q E ok e S F k => by
  dsimp only at e
  split at e
  · rename_i hfs
    obtain ⟨it, hit, e1⟩ := bindS e
    obtain ⟨r, hr, e2⟩ := mapS e1
    cases e2
    clear e e1
    obtain ⟨hkind, hdbg, hcell, hlocal, hfree⟩ := scope_facts hsc
    obtain ⟨m0, hm0, hv0⟩ := F.vars
    have fr : ∀ p ∈ scope.names, p.2 = .free → ∃ i b, place p.1 sc = some i ∧ (ρ[i]?).join = some b := fun p hp hf => by
      have h1 := List.all_eq_true.mp hfs p hp
      rw [hf] at h1
      obtain ⟨b, hb⟩ := Option.isSome_iff_exists.mp h1
      obtain ⟨i, hi, hb'⟩ := bindS hb
      exact ⟨i, b, hi, hb'⟩
    have cells : ∀ p ∈ scope.names, p.2 = .free → ∃ c, env.cells.lookup p.1 = some c := fun p hp hf => by
      obtain ⟨i, b, hi, hb⟩ := fr p hp hf
      rcases hv0 p.1 i b (place_of O hi) hb with ⟨hk, zz⟩ | ⟨zz, c, zz, hc, zz⟩
      · have := kindOf_of O (hfree p hp hf)
        rw [this] at hk; cases hk
      · exact ⟨c, hc⟩
    obtain ⟨cl, hcl, hlook⟩ := closure_ok cells
    rw [eval_ListComp]
    refine wpAny_comprehension_free (use := none) (g := ⟨.Name x px, iter, ifs, 0⟩) (gs := []) rfl hfold hcl hkind hlocal ?_
    show wpAny _ A (eval iter env) _ _ _
    refine I0 A ρ σ φ s it.1 it.2 _ E ok hit S F fun h1 tk1 φ1 I st1 nI S1 at1 => ?_
    have F1 := F.step S st1
    refine wpAny_newObj_type (wpAny_newFunctionEnv hcell (by intro y hy; simp at hy) (fun h₂ hns₂ hsb₂ => ?_) hkind)
    dsimp only at hns₂ hsb₂ ⊢
    generalize hH : h1.push { cls := .type "list", dict := none, data := .seq ([] : List Value).toArray } = H2 at hns₂ hsb₂ ⊢
    have hC : H2.objs.size = h1.objs.size + 1 := by rw [← hH, Heap.size_push]
    have lt1 : ∀ b o, h1.get? b = some o → b < h1.objs.size := fun b o e => Heap.lt_size e
    have old : ∀ b o, h1.get? b = some o → h₂.get? b = some o := fun b o e => hsb₂.extBut b o (by rw [hC]; exact Nat.ne_of_lt (Nat.lt_succ_of_lt (lt1 b o e))) (Heap.get?_push_of_some _ (hH ▸ Heap.get?_push_of_some _ e))
    have hDC : h1.objs.size ≠ H2.objs.size := by rw [hC]; exact Nat.ne_of_lt (Nat.lt_succ_self _)
    have hacc : h₂.PlainList h1.objs.size (List.toArray []) := ⟨_, hsb₂.extBut _ _ hDC (Heap.get?_push_of_some _ (hH ▸ Heap.get?_push_size _ rfl))⟩
    have nD1 : h1.get? h1.objs.size = none := get_size_none _
    have nC1 : h1.get? H2.objs.size = none := by
      cases q : h1.get? H2.objs.size with
      | none => rfl
      | some o => exact absurd (lt1 _ o q) (by rw [hC]; exact Nat.not_lt.mpr (Nat.le_succ _))
    obtain ⟨oI, zz, zz, gI, zz⟩ := at1.fields
    have hI1 := lt1 _ _ gI
    have hID : I ≠ h1.objs.size := Nat.ne_of_lt hI1
    have hIL : H2.objs.size ≠ I := by rw [hC]; exact Nat.ne_of_gt (Nat.lt_succ_of_lt hI1)
    have S2 : SR B h₂ φ1 it.2 := S1.grow old
    have g2 := Step.of_grow (φ := φ1) old
    have at2 := at1.step S1 S2 g2
    have F2 := F1.step S1 g2
    have offnew : ∀ a, h1.get? a = none → ∀ p ∈ φ1, a ≠ p.2 := fun a ha p hp q => by
      obtain ⟨o, ho, zz⟩ := S1.mut hp
      rw [← q, ha] at ho; cases ho
    let cenv := compEnvC scope cl H2.objs.size env
    have Oc : EnvOk cenv (compNames scope.names) := ⟨relabel_names O hsc, hkind, O.globals, O.builtins, hdbg⟩
    have Fc : FR B cenv h₂ φ1 (compVars sc ρ scope.names) := by
      refine ⟨offnew _ nC1, S1.base_none nC1, _, hns₂, fun y i b e1 e2 => ?_⟩
      rw [Oc.names, place_comp] at e1
      obtain ⟨ky, hy1, hy2⟩ := place_lookup e1
      unfold compVars at e2
      rw [List.getElem?_map, hy1] at e2
      dsimp only [Option.map] at e2
      split at e2
      · have hmem : (y, NameKind.free) ∈ scope.names := List.mem_of_getElem? hy1
        obtain ⟨j, b', hj, hb'⟩ := fr _ hmem rfl
        have hb : (ρ[j]?).join = some b := by
          have : ((place y sc).bind fun i => (ρ[i]?).join) = some b := by simpa using e2
          rw [show place y sc = some j from hj] at this
          exact this
        obtain ⟨m2, hm2, hv2⟩ := F2.vars
        rcases hv2 y j b (place_of O hj) hb with ⟨hk, zz⟩ | ⟨zz, c, v, hc, hcell', hr'⟩
        · have := kindOf_of O (hfree _ hmem rfl)
          rw [this] at hk; cases hk
        · refine .inr ⟨?_, c, v, ?_, hcell', hr'⟩
          · refine kindOf_of Oc ?_
            unfold kindIn
            rw [place_comp, e1]
            show ((compNames scope.names)[i]?).map _ = _
            rw [comp_get, hy1]
            rfl
          · show cl.lookup y = some c
            rw [← hc]; exact hlook _ hmem rfl
      · simp at e2
    have x2 : StepX (fun a => a = I ∨ a = h1.objs.size ∨ a = cenv.locals) φ φ1 s.heap h₂ := (st1.toX S1).trans (g2.toX S2)
    have nD : s.heap.get? h1.objs.size = none := Step.none_before st1 S1 nD1
    have nC : s.heap.get? cenv.locals = none := Step.none_before st1 S1 nC1
    have loop := compLoopOk Oc (x := x) (px := px) (pos := pos) (iter := iter) (scope := scope) (IT cenv Oc) (IE cenv Oc) ok S nI nD nC hID hIL (Ne.symm hDC) (res := r)
      (R := compPost (model B.prog B.w) A E none Q (.ref h1.objs.size) H2.objs.size)
      (fun h tk φ' vs x3 S3 l3 v3 z3 d3 c3 hns3 => by
        obtain ⟨m3, hn3⟩ := hns3
        refine ⟨m3, hn3, fun h4 hs4 => ?_⟩
        have loC := loose_ns hn3
        have S4 : SR B h4 φ' r.2 := S3.loose hs4.extBut (S1.base_none nC1) c3 loC
        have l4 := l3.extBut hs4.extBut hDC
        have v4 := v3.loose hs4.extBut loC
        have S5 : SR B h4 (φ' ++ [(h1.objs.size, h1.objs.size)]) (r.2 ++ [.list r.1]) := S4.adopt (S1.base_none nD1) d3 ⟨rfl, vs, l4, v4.move (fun zz zz zz e => e) fun i p e => by
          obtain ⟨hi, zz⟩ := List.getElem?_eq_some_iff.mp e
          rw [List.getElem?_append_left hi]; exact e, z3⟩
        have x4 := x3.last nC hs4.extBut
        have hx : (φ' ++ [(h1.objs.size, h1.objs.size)])[r.2.length]? = some (h1.objs.size, h1.objs.size) := by rw [← S3.len]; simp
        refine k _ h4 tk _ ?_ S5 (.cell hx)
        obtain ⟨ψ, hψ, hn⟩ := x4.ext
        refine ⟨⟨ψ ++ [(h1.objs.size, h1.objs.size)], by rw [hψ]; simp, fun p hp => ?_⟩, fun a o e hne => x4.keep a o e ?_ hne⟩
        · rcases List.mem_append.mp hp with hp | hp
          · exact hn p hp
          · rw [List.mem_singleton.mp hp]; exact nD
        · rintro (q | q | q)
          · rw [q, nI] at e; cases e
          · rw [q, nD] at e; cases e
          · rw [q, nC] at e; cases e)
      (i := 0) (acc := []) (vs := []) (tk := tk1 + ([] : List (Str × Value)).length) x2 S2 Fc at2 hacc .nil (by simp) (offnew _ nD1) (by simpa using hr)
    exact codeAny_compStart_list loop (at2.self loop)
  · cases e
end
end Mine
end
-- R18
section
namespace Mine
open PySem PySem.W PySem.Calls PyProof.Rows PySem.SeqAt
section
variable {B : Base} {n : Nat} {C : Handler} {env : PySem.Env} {sc : List (Str × NameKind)}
theorem EvOk.of {r r' : Run} {t : Sem Value} (x : EvOk B n env r' t) (h : ∀ ρ σ, r ρ σ = r' ρ σ) : EvOk B n env r t := fun A ρ σ φ s a σ' Q E ok e => x A ρ σ φ s a σ' Q E ok (h ρ σ ▸ e)
theorem EvBOk.of {r r' : RunB} {t : Sem Bool} (x : EvBOk B n env r' t) (h : ∀ ρ σ, r ρ σ = r' ρ σ) : EvBOk B n env r t := fun A ρ σ φ s a σ' Q E ok e => x A ρ σ φ s a σ' Q E ok (h ρ σ ▸ e)
end
section
variable (B : Base) (n : Nat) (C : Handler) (sc : List (Str × NameKind))
noncomputable def KE (e : Expr) (c : IE) : Prop := ∀ env, EnvOk env sc → EvOk B n env (runE B.ns C c) (eval e env)
noncomputable def KT (e : Expr) (c : IE) : Prop := ∀ env, EnvOk env sc → EvBOk B n env (asB (runE B.ns C c)) (isTrue e env (eval e env))
noncomputable def KEs (es : List Expr) (c : IE) : Prop := ∀ env, EnvOk env sc → EsOk B n C env es c
noncomputable def KTs (op : BoolOp) (es : List Expr) (c : IE) : Prop := ∀ env, EnvOk env sc → EvBOk B n env (asB (runE B.ns C c)) (allTrue op es env)
noncomputable def KVs (es : List Expr) (c : IE) : Prop := ∀ env, EnvOk env sc → ∀ pos, EvOk B n env (runE B.ns C c) (boolOp pos .And (evalEach es env))
noncomputable def KZs (es : List Expr) (c : IE) : Prop := ∀ env, EnvOk env sc → EvBOk B n env (asB (runE B.ns C c)) (forIn es true fun c r => if r = true then do let ok ← isTrue c env (eval c env); pure (ForInStep.yield ok) else pure (ForInStep.yield r))
noncomputable def KI (e : Expr) (k : IK) (c : IE) : Prop := (∀ env x, foldedSetIterable e env x = pure x) ∧ ∀ env, EnvOk env sc → ItOk B n env (itK k (runE B.ns C c)) e
noncomputable def KL (as : List Expr) (c : IE) : Prop := ∀ (f : Str) (fp pos : Pos), kindIn f sc = some .globalImplicit → biOf f = some .list → ∀ env, EnvOk env sc → EvOk B n env (runE B.ns C c) (eval (.Call (.Name f fp) as [] pos) env)
end
section
variable {B : Base} {n : Nat} {C : Handler} {sc : List (Str × NameKind)}
theorem v_ife {t b o : Expr} {p : Pos} {c x y : IE} (hc : KT B n C sc t c) (hx : KE B n C sc b x) (hy : KE B n C sc o y) : KE B n C sc (.IfExp t b o p) (.ife c x y) := fun env O => ifE (hc env O) (hx env O) (hy env O)
theorem v_bin {l r : Expr} {op : Operator} {p : Pos} {a b : IE} (ha : KE B n C sc l a) (hb : KE B n C sc r b) : KE B n C sc (.BinOp l op r p) (.bin op a b) := fun env O => binE (ha env O) (hb env O)
theorem v_neg {x : Expr} {p : Pos} {a : IE} (ha : KE B n C sc x a) : KE B n C sc (.UnaryOp .USub x p) (.neg a) := fun env O => negE (ha env O)
theorem v_sub {o i : Expr} {p : Pos} {a b : IE} (ha : KE B n C sc o a) (hb : KE B n C sc i b) : KE B n C sc (.Subscript o i p) (.sub a b) := fun env O => subE (ha env O) (hb env O)
theorem v_subK {o : Expr} {k : Nat} {p p2 : Pos} {m : Nat} {a : IE} (ha : KE B n C sc o a) : KE B n C sc (.Subscript o (.Constant (.int (.ofNat m)) k p2) p) (.subK a m) := fun env O => (subE (ha env O) (intE (C := C))).of fun ρ σ => rfl
theorem v_last {o : Expr} {k : Nat} {p p2 p3 : Pos} {a : IE} (ha : KE B n C sc o a) : KE B n C sc (.Subscript o (.UnaryOp .USub (.Constant (.int 1) k p2) p3) p) (.last a) := fun env O => (subE (ha env O) (negE (intE (C := C)))).of fun ρ σ => rfl
theorem v_hi {o x : Expr} {p p2 : Pos} {k : Int} {a : IE} (hk : constInt x = some k) (ha : KE B n C sc o a) : KE B n C sc (.Subscript o (.Slice none (some x) none p2) p) (.hi a k) := fun env O => slice_core (kl := none) (kh := some k) (ha env O) .none (.some hk)
theorem v_lo {o x : Expr} {p p2 : Pos} {k : Int} {a : IE} (hk : constInt x = some k) (ha : KE B n C sc o a) : KE B n C sc (.Subscript o (.Slice (some x) none none p2) p) (.lo a k) := fun env O => slice_core (kl := some k) (kh := none) (ha env O) (.some hk) .none
theorem v_nil : KEs B n C sc [] .nil := fun zz zz => es_nil
theorem v_cons {e : Expr} {r : List Expr} {a b : IE} (hs : notStar e = true) (ha : KE B n C sc e a) (hb : KEs B n C sc r b) : KEs B n C sc (e :: r) (.cons a b) := fun env O => es_cons hs (ha env O) (hb env O)
theorem v_v1 {e : Expr} {a : IE} (ha : KE B n C sc e a) : KVs B n C sc [e] a := fun env O zz => boolOne (ha env O)
theorem v_v2 {e e2 : Expr} {r : List Expr} {a b : IE} (ha : KE B n C sc e a) (hb : KVs B n C sc (e2 :: r) b) : KVs B n C sc (e :: e2 :: r) (.and2 a b) := fun env O pos => boolCons (ha env O) (hb env O pos)
theorem v_bools {es : List Expr} {p : Pos} {c : IE} (h : KVs B n C sc es c) : KE B n C sc (.BoolOp .And es p) c := fun env O => by rw [arm_eval_BoolOp]; exact h env O _
theorem v_tnot {x : Expr} {p : Pos} {c : IE} (hc : KT B n C sc x c) : KT B n C sc (.UnaryOp .Not x p) (.tnot c) := fun env O => (notT (hc env O)).of fun ρ σ => asB_ofB
theorem v_tbool {op : BoolOp} {vs : List Expr} {p : Pos} {c : IE} (hc : KTs B n C sc op vs c) : KT B n C sc (.BoolOp op vs p) c := fun env O => by rw [arm_isTrue_BoolOp]; exact hc env O
theorem v_tval {e : Expr} {a : IE} (he : ∀ env whole, isTrue e env whole = (do let v ← whole; standAt e.pos; holding [v] (truthy v))) (ha : KE B n C sc e a) : KT B n C sc e (.tval a) := fun env O => (testE (he _ _) (ha env O)).of fun ρ σ => asB_ofB
theorem v_andN : KTs B n C sc .And [] (.bool true) := fun zz zz => (allNil (op := .And)).of fun zz zz => rfl
theorem v_orN : KTs B n C sc .Or [] (.bool false) := fun zz zz => (allNil (op := .Or)).of fun zz zz => rfl
theorem v_and {e : Expr} {r : List Expr} {a b : IE} (ha : KT B n C sc e a) (hb : KTs B n C sc .And r b) : KTs B n C sc .And (e :: r) (.tand a b) := fun env O => (allCons (ha env O) (hb env O)).of fun ρ σ => asB_ofB
theorem v_or {e : Expr} {r : List Expr} {a b : IE} (ha : KT B n C sc e a) (hb : KTs B n C sc .Or r b) : KTs B n C sc .Or (e :: r) (.tor a b) := fun env O => (allCons (ha env O) (hb env O)).of fun ρ σ => asB_ofB
theorem v_z0 : KZs B n C sc [] (.bool true) := fun zz zz => tests_nil
theorem v_z1 {e : Expr} {r : List Expr} {a b : IE} (ha : KT B n C sc e a) (hb : KZs B n C sc r b) : KZs B n C sc (e :: r) (.tand a b) := fun env O => tests_cons (ha env O) (hb env O)
noncomputable def notSet : Expr → Bool
  | .Set .. => false
  | _ => true
theorem fold_of {e : Expr} (h : notSet e = true) (env : PySem.Env) (x : Value) : foldedSetIterable e env x = pure x := by
  cases e <;> first | rfl | exact nomatch (show false = true from h)
theorem v_iter {e : Expr} {a : IE} (h : notSet e = true) (ha : KE B n C sc e a) : KI B n C sc e .plain a := ⟨fold_of h, fun env O => iterPlain (ha env O)⟩
noncomputable def methOk (o : Expr) (as : List Expr) (ap p : Pos) : Bool := notCall o && decide (ap.endLine = p.line) && decide (as.length < 20)
theorem methOk_of {o : Expr} {as : List Expr} {ap p : Pos} (h : methOk o as ap p = true) : notCall o = true ∧ ap.endLine = p.line ∧ as.length < 20 := by
  obtain ⟨h1, h2⟩ := Bool.and_eq_true_iff.mp h
  obtain ⟨h3, h4⟩ := Bool.and_eq_true_iff.mp h1
  exact ⟨h3, of_decide_eq_true h4, of_decide_eq_true h2⟩
theorem v_cmp (G : Good B) {l r : Expr} {op : CmpOp} {p : Pos} {a b : IE} (hm : behindInMarks op r = false) (ha : KE B n C sc l a) (hb : KE B n C sc r b) : KE B n C sc (.Compare l [op] [r] p) (.cmp op a b) := fun env O => cmpE hm G (ha env O) (hb env O)
theorem v_tcmp (G : Good B) {l r : Expr} {op : CmpOp} {p : Pos} {a b : IE} (hm : behindInMarks op r = false) (ha : KE B n C sc l a) (hb : KE B n C sc r b) : KT B n C sc (.Compare l [op] [r] p) (.cmp op a b) := fun env O => cmpT hm G (ha env O) (hb env O)
theorem v_attr (G : Good B) {o : Expr} {x : Str} {p : Pos} {m : Nat} {c : IE} (hn : notCall o = true) (hx : codeOf x = some m) (hc : KE B n C sc o c) : KE B n C sc (.Attribute o x p) (.attr c m) := fun env O => attrE G hn hx (hc env O)
theorem v_app (G : Good B) {o : Expr} {m : Str} {as : List Expr} {ap p : Pos} {a b : IE} (h0 : methOk o as ap p = true) (hm : seq m "append" = true) (ha : KE B n C sc o a) (hb : KEs B n C sc as b) : KE B n C sc (.Call (.Attribute o m ap) as [] p) (.app a b) := fun env O =>
  let ⟨h1, h2, h3⟩ := methOk_of h0; appCallOk G hm h1 h2 h3 (ha env O) (hb env O)
theorem v_pop (G : Good B) {o : Expr} {m : Str} {as : List Expr} {ap p : Pos} {a b : IE} (h0 : methOk o as ap p = true) (hm : seq m "pop" = true) (ha : KE B n C sc o a) (hb : KEs B n C sc as b) : KE B n C sc (.Call (.Attribute o m ap) as [] p) (.pop a b) := fun env O =>
  let ⟨h1, h2, h3⟩ := methOk_of h0; popCallOk G hm h1 h2 h3 (ha env O) (hb env O)
theorem v_meth (G : Good B) (H : HOk B n C) {o : Expr} {m : Str} {as : List Expr} {ap p : Pos} {f : Fn} {a b : IE} (h0 : methOk o as ap p = true) (hf : findFn m fnMeths = some f) (ha : KE B n C sc o a) (hb : KEs B n C sc as b) : KE B n C sc (.Call (.Attribute o m ap) as [] p) (.meth f a b) := fun env O =>
  let ⟨h1, h2, h3⟩ := methOk_of h0; methCallOk G H hf h1 h2 h3 (ha env O) (hb env O)
theorem v_call (G : Good B) (H : HOk B n C) {f : Str} {fp p : Pos} {as : List Expr} {g : Fn} {b : IE} (hk : kindIn f sc = some .globalImplicit) (hf : findFn f fnGlobals = some g) (hb : KEs B n C sc as b) : KE B n C sc (.Call (.Name f fp) as [] p) (.call g b) := fun env O => fnCallOk O G H hk hf (hb env O)
theorem v_new (G : Good B) (H : HOk B n C) {f : Str} {fp p : Pos} {as : List Expr} {c : Cls} {b : IE} (hk : kindIn f sc = some .globalImplicit) (hf : clsOf f = some c) (hb : KEs B n C sc as b) : KE B n C sc (.Call (.Name f fp) as [] p) (.new c b) := fun env O => newCallOk O G H hk hf (hb env O)
theorem v_bi (G : Good B) (H : HOk B n C) {f : Str} {fp p : Pos} {as : List Expr} {t : BI} {b : IE} (hk : kindIn f sc = some .globalImplicit) (hf : biOf f = some t) (hb : KEs B n C sc as b) : KE B n C sc (.Call (.Name f fp) as [] p) (.bi t b) := fun env O => biCallOk O G H hk hf (hb env O)
theorem v_lP (G : Good B) (H : HOk B n C) {as : List Expr} {b : IE} (hb : KEs B n C sc as b) : KL B n C sc as (.bi .list b) := fun zz zz zz hk hf env O => biCallOk O G H hk hf (hb env O)
theorem v_lR (G : Good B) {g : Str} {gp p : Pos} {as : List Expr} {b : IE} (hg : biOf g = some .range) (hk : kindIn g sc = some .globalImplicit) (hb : KEs B n C sc as b) : KL B n C sc [.Call (.Name g gp) as [] p] (.listR b) := fun zz zz zz hk' hf env O => listRangeE O G hk' hf hk hg (hb env O)
theorem v_range (G : Good B) {g : Str} {gp p : Pos} {as : List Expr} {b : IE} (hg : biOf g = some .range) (hk : kindIn g sc = some .globalImplicit) (hb : KEs B n C sc as b) : KI B n C sc (.Call (.Name g gp) as [] p) .range b := ⟨fold_of rfl, fun env O => iterRange O G hk hg (hb env O)⟩
theorem v_rev (G : Good B) {g : Str} {gp p : Pos} {as : List Expr} {b : IE} (hg : biOf g = some .reversed) (hk : kindIn g sc = some .globalImplicit) (hb : KEs B n C sc as b) : KI B n C sc (.Call (.Name g gp) as [] p) .rev b := ⟨fold_of rfl, fun env O => iterRev O G hk hg (hb env O)⟩
noncomputable def locP (sc : List (Str × NameKind)) (x : Str) : Option Nat := if kindIn x sc = some .local then place x sc else none
theorem setVar_of {x : Str} {i : Nat} {v : AV} {ρ : Vars} (h : locP sc x = some i) : setVar sc x v ρ = some (ρ.set i (some v)) := by
  unfold locP at h
  split at h
  · rename_i hk
    exact (if_pos hk).trans (congrArg (Option.map _) h)
  · exact nomatch h
noncomputable def frOf (sc : List (Str × NameKind)) : List (Str × NameKind) → Option (List (Option Nat))
  | [] => some []
  | p :: r => match p.2 with
    | .free => (place p.1 sc).bind fun j => (frOf sc r).map fun l => some j :: l
    | _ => (frOf sc r).map fun l => none :: l
theorem varsOf_eq {ρ ρ0 : Vars} : ∀ {names : List (Str × NameKind)} {fr : List (Option Nat)}, frOf sc names = some fr → varsOf fr ρ = some ρ0 → freeSet sc ρ names = true ∧ ρ0 = compVars sc ρ names := by
  intro names
  induction names generalizing ρ0 with
  | nil => intro fr e h; cases e; cases h; exact ⟨rfl, rfl⟩
  | cons p r ih =>
    intro fr e h
    obtain ⟨x, kd⟩ := p
    cases kd
    case free =>
      obtain ⟨j, e1, e⟩ := Option.bind_eq_some_iff.mp (show (place x sc).bind _ = some fr from e)
      obtain ⟨l, e2, e⟩ := Option.map_eq_some_iff.mp e
      cases e
      obtain ⟨v, e3, h⟩ := Option.bind_eq_some_iff.mp h
      obtain ⟨ρ1, e4, h⟩ := Option.map_eq_some_iff.mp h
      cases h
      obtain ⟨a, b⟩ := ih e2 e4
      have e5 : ((place x sc).bind fun i => (ρ[i]?).join) = some v := (congrArg (Option.bind · _) e1).trans e3
      exact ⟨Bool.and_eq_true_iff.mpr ⟨congrArg Option.isSome e5, a⟩, (congrArg (some v :: ·) b).trans (congrArg (· :: compVars sc ρ r) e5.symm)⟩
    all_goals
      obtain ⟨l, e2, e⟩ := Option.map_eq_some_iff.mp (show (frOf sc r).map _ = some fr from e)
      cases e
      obtain ⟨ρ1, e4, h⟩ := Option.map_eq_some_iff.mp h
      cases h
      obtain ⟨a, b⟩ := ih e2 e4
      exact ⟨a, congrArg (none :: ·) b⟩
theorem v_lc {elt it : Expr} {ifs : List Expr} {scope : Scope} {x : Str} {xp p : Pos} {k : IK} {fr : List (Option Nat)} {i : Nat} {a b c : IE} (hs : scopeOk sc scope = true) (hf : frOf sc scope.names = some fr) (hx : locP (compNames scope.names) x = some i) (ha : KI B n C sc it k a) (hb : KZs B n C (compNames scope.names) ifs b) (hc : KE B n C (compNames scope.names) elt c) :
    KE B n C sc (.ListComp elt [⟨.Name x xp, it, ifs, 0⟩] scope p) (.lc k fr i a b c) := fun env O A ρ σ φ s r σ' Q E ok e S F q => by
  obtain ⟨ρ0, e0, e⟩ := Option.bind_eq_some_iff.mp e
  obtain ⟨h1, rfl⟩ := varsOf_eq hf e0
  have es : setVar (compNames scope.names) x = setAt i := funext fun v => funext fun ρ => setVar_of hx
  refine lcE (T := asB (runE B.ns C b)) (L := runE B.ns C c) O hs (ha.1 env) (ha.2 env O) hb hc A ρ σ φ s r σ' Q E ok ?_ S F q
  rw [es]
  exact (if_pos h1).trans e
end
end Mine
end
-- R19
section
namespace Mine
open PySem PySem.W PySem.Calls PyProof.Rows PySem.SeqAt
section
variable {B : Base} {n : Nat} {C : Handler} (G : Good B) (H : HOk B n C)
noncomputable abbrev RE (B : Base) (n : Nat) (C : Handler) (sc : List (Str × NameKind)) (e : Expr) := Option {c : IE // KE B n C sc e c}
noncomputable abbrev REs (B : Base) (n : Nat) (C : Handler) (sc : List (Str × NameKind)) (e : List Expr) := Option {c : IE // KEs B n C sc e c}
noncomputable abbrev RT (B : Base) (n : Nat) (C : Handler) (sc : List (Str × NameKind)) (e : Expr) := Option {c : IE // KT B n C sc e c}
noncomputable abbrev RI (B : Base) (n : Nat) (C : Handler) (sc : List (Str × NameKind)) (e : Expr) := Option {c : IK × IE // KI B n C sc e c.1 c.2}
noncomputable def cConst (sc : List (Str × NameKind)) (k : Nat) (p : Pos) : (c : Const) → RE B n C sc (.Constant c k p)
  | .none => some ⟨.none, fun zz zz => noneE⟩
  | .bool b => some ⟨.bool b, fun zz zz => boolE⟩
  | .int i => some ⟨.int i, fun zz zz => intE⟩
  | .str x => match h : codeOf x with
    | some n => some ⟨.str n, fun zz zz => strE h⟩
    | none => none
  | _ => none
noncomputable def cName (sc : List (Str × NameKind)) (x : Str) (p : Pos) : RE B n C sc (.Name x p) := match h : place x sc with
  | some n => some ⟨.var n, fun zz O => nameOk O h⟩
  | none => none
noncomputable def cSub {sc : List (Str × NameKind)} (o : Expr) (p : Pos) (a : RE B n C sc o) : (i : Expr) → RE B n C sc i → RE B n C sc (.Subscript o i p)
  | .Slice none (some h) none p2, _ => match e : constInt h with
    | some k => a.map fun x => ⟨.hi x.1 k, v_hi e x.2⟩
    | none => none
  | .Slice (some h) none none p2, _ => match e : constInt h with
    | some k => a.map fun x => ⟨.lo x.1 k, v_lo e x.2⟩
    | none => none
  | .Constant (.int (.ofNat n)) k p2, _ => a.map fun x => ⟨.subK x.1 n, v_subK x.2⟩
  | .UnaryOp .USub (.Constant (.int 1) k p2) p3, _ => a.map fun x => ⟨.last x.1, v_last x.2⟩
  | i, b => a.bind fun x => b.map fun y => ⟨.sub x.1 y.1, v_sub x.2 y.2⟩
noncomputable def cAttr {sc : List (Str × NameKind)} (o : Expr) (m : Str) (p : Pos) (a : RE B n C sc o) : RE B n C sc (.Attribute o m p) := match h : codeOf m with
  | some n => if h0 : notCall o = true then a.map fun x => ⟨.attr x.1 n, v_attr G h0 h x.2⟩ else none
  | none => none
noncomputable def cMeth {sc : List (Str × NameKind)} (o : Expr) (m : Str) (ap : Pos) (as : List Expr) (p : Pos) (a : RE B n C sc o) (b : REs B n C sc as) : RE B n C sc (.Call (.Attribute o m ap) as [] p) :=
  if h0 : methOk o as ap p = true then a.bind fun x => b.bind fun y =>
    if hm : seq m "append" = true then some ⟨.app x.1 y.1, v_app G h0 hm x.2 y.2⟩
    else if hm2 : seq m "pop" = true then some ⟨.pop x.1 y.1, v_pop G h0 hm2 x.2 y.2⟩
    else match hf : findFn m fnMeths with
      | some f => some ⟨.meth f x.1 y.1, v_meth G H h0 hf x.2 y.2⟩
      | none => none
  else none
noncomputable def cCall {sc : List (Str × NameKind)} (f : Str) (fp : Pos) (as : List Expr) (p : Pos) (b : REs B n C sc as) (l : Option {c : IE // KL B n C sc as c}) : RE B n C sc (.Call (.Name f fp) as [] p) :=
  if hk : kindIn f sc = some .globalImplicit then
    match hf : findFn f fnGlobals with
    | some g => b.map fun y => ⟨.call g y.1, v_call G H hk hf y.2⟩
    | none => match hc : clsOf f with
      | some c => b.map fun y => ⟨.new c y.1, v_new G H hk hc y.2⟩
      | none => match hb : biOf f with
        | some t => if ht : t = .list then l.map fun y => ⟨y.1, fun env O => y.2 f fp p hk (ht ▸ hb) env O⟩ else b.map fun y => ⟨.bi t y.1, v_bi G H hk hb y.2⟩
        | none => none
  else none
noncomputable def cTval {sc : List (Str × NameKind)} {e : Expr} (w : RE B n C sc e) (h : ∀ env whole, isTrue e env whole = (do let v ← whole; standAt e.pos; holding [v] (truthy v))) : RT B n C sc e := w.map fun x => ⟨.tval x.1, v_tval h x.2⟩
noncomputable def cCmp {sc : List (Str × NameKind)} (l r : Expr) (op : CmpOp) (p : Pos) (a : RE B n C sc l) (b : RE B n C sc r) : RE B n C sc (.Compare l [op] [r] p) := if h : behindInMarks op r = false then a.bind fun a => b.map fun b => ⟨.cmp op a.1 b.1, v_cmp G h a.2 b.2⟩ else none
noncomputable def cTcmp {sc : List (Str × NameKind)} (l r : Expr) (op : CmpOp) (p : Pos) (a : RE B n C sc l) (b : RE B n C sc r) : RT B n C sc (.Compare l [op] [r] p) := if h : behindInMarks op r = false then a.bind fun a => b.map fun b => ⟨.cmp op a.1 b.1, v_tcmp G h a.2 b.2⟩ else none
noncomputable def cIter {sc : List (Str × NameKind)} (e : Expr) (w : RE B n C sc e) : RI B n C sc e := if h : notSet e = true then w.map fun x => ⟨(.plain, x.1), v_iter h x.2⟩ else none
noncomputable def cRange {sc : List (Str × NameKind)} (g : Str) (gp : Pos) (as : List Expr) (p : Pos) (b : REs B n C sc as) (w : RE B n C sc (.Call (.Name g gp) as [] p)) : RI B n C sc (.Call (.Name g gp) as [] p) :=
  if hg : biOf g = some .range then (if hk : kindIn g sc = some .globalImplicit then b.map fun a => ⟨(.range, a.1), v_range G hg hk a.2⟩ else none)
  else if hg : biOf g = some .reversed then (if hk : kindIn g sc = some .globalImplicit then b.map fun a => ⟨(.rev, a.1), v_rev G hg hk a.2⟩ else none)
  else cIter _ w
noncomputable def cListR {sc : List (Str × NameKind)} (g : Str) (gp : Pos) (as : List Expr) (p : Pos) (b : REs B n C sc as) (w : REs B n C sc [.Call (.Name g gp) as [] p]) : Option {c : IE // KL B n C sc [.Call (.Name g gp) as [] p] c} :=
  if hg : biOf g = some .range then (if hk : kindIn g sc = some .globalImplicit then b.map fun a => ⟨.listR a.1, v_lR G hg hk a.2⟩ else none)
  else w.map fun a => ⟨.bi .list a.1, v_lP G H a.2⟩
noncomputable def cComp {sc : List (Str × NameKind)} (x : Str) (xp : Pos) (it : Expr) (ifs : List Expr) (elt : Expr) (scope : Scope) (p : Pos) (a : RI B n C sc it) (b : Option {c : IE // KZs B n C (compNames scope.names) ifs c}) (c : RE B n C (compNames scope.names) elt) : RE B n C sc (.ListComp elt [⟨.Name x xp, it, ifs, 0⟩] scope p) :=
  if hs : scopeOk sc scope = true then (match hf : frOf sc scope.names with
    | some fr => (match hx : locP (compNames scope.names) x with
      | some i => a.bind fun a => b.bind fun b => c.map fun c => ⟨.lc a.1.1 fr i a.1.2 b.1 c.1, v_lc hs hf hx a.2 b.2 c.2⟩
      | none => none)
    | none => none) else none
noncomputable def cCons {sc : List (Str × NameKind)} (e : Expr) (r : List Expr) (a : RE B n C sc e) (b : REs B n C sc r) : REs B n C sc (e :: r) := if h : notStar e = true then a.bind fun a => b.map fun b => ⟨.cons a.1 b.1, v_cons h a.2 b.2⟩ else none
mutual
noncomputable def compE (sc : List (Str × NameKind)) : (e : Expr) → RE B n C sc e
  | .Constant c k p => cConst sc k p c
  | .Name x p => cName sc x p
  | .BoolOp .And vs p => (compVs sc vs).map fun x => ⟨x.1, v_bools x.2⟩
  | .BinOp l op r p => (compE sc l).bind fun a => (compE sc r).map fun b => ⟨.bin op a.1 b.1, v_bin a.2 b.2⟩
  | .UnaryOp .USub x p => (compE sc x).map fun a => ⟨.neg a.1, v_neg a.2⟩
  | .IfExp t b o p => (compT sc t (compE sc t)).bind fun c => (compE sc b).bind fun x => (compE sc o).map fun y => ⟨.ife c.1 x.1 y.1, v_ife c.2 x.2 y.2⟩
  | .Dict [] [] p => some ⟨.dict, fun zz zz => dictE⟩
  | .List es p => (compEs sc es).map fun c => ⟨.list c.1, fun env O => listE (c.2 env O)⟩
  | .Tuple es k p => (compEs sc es).map fun c => ⟨.tup c.1, fun env O => tupE (c.2 env O)⟩
  | .ListComp elt [⟨.Name x xp, it, ifs, 0⟩] scope p => cComp x xp it ifs elt scope p (compI sc it (compE sc it)) (compZs (compNames scope.names) ifs) (compE (compNames scope.names) elt)
  | .Compare l [op] [r] p => cCmp G l r op p (compE sc l) (compE sc r)
  | .Call (.Attribute o m ap) as [] p => cMeth G H o m ap as p (compE sc o) (compEs sc as)
  | .Call (.Name f fp) as [] p => cCall G H f fp as p (compEs sc as) (compL sc as (compEs sc as))
  | .Subscript o i p => cSub o p (compE sc o) i (compE sc i)
  | .Attribute o a p => cAttr G o a p (compE sc o)
  | _ => none
noncomputable def compEs (sc : List (Str × NameKind)) : (es : List Expr) → REs B n C sc es
  | [] => some ⟨.nil, v_nil⟩
  | e :: r => cCons e r (compE sc e) (compEs sc r)
noncomputable def compVs (sc : List (Str × NameKind)) : (es : List Expr) → Option {c : IE // KVs B n C sc es c}
  | [] => none
  | e :: r => match r, compVs sc r with
    | [], _ => (compE sc e).map fun a => ⟨a.1, v_v1 a.2⟩
    | _ :: _, b => (compE sc e).bind fun a => b.map fun b => ⟨.and2 a.1 b.1, v_v2 a.2 b.2⟩
noncomputable def compL (sc : List (Str × NameKind)) : (es : List Expr) → REs B n C sc es → Option {c : IE // KL B n C sc es c}
  | [.Call (.Name g gp) as [] p], w => cListR G H g gp as p (compEs sc as) w
  | es, w => w.map fun a => ⟨.bi .list a.1, v_lP G H a.2⟩
noncomputable def compI (sc : List (Str × NameKind)) : (e : Expr) → RE B n C sc e → RI B n C sc e
  | .Call (.Name g gp) as [] p, w => cRange G g gp as p (compEs sc as) w
  | e, w => cIter e w
noncomputable def compT (sc : List (Str × NameKind)) : (e : Expr) → RE B n C sc e → RT B n C sc e
  | .UnaryOp .Not x p, _ => (compT sc x (compE sc x)).map fun a => ⟨.tnot a.1, v_tnot a.2⟩
  | .BoolOp .And vs p, _ => (compAs sc vs).map fun a => ⟨a.1, v_tbool a.2⟩
  | .BoolOp .Or vs p, _ => (compOs sc vs).map fun a => ⟨a.1, v_tbool a.2⟩
  | .Compare l [op] [r] p, _ => cTcmp G l r op p (compE sc l) (compE sc r)
  | .Name x p, w => cTval w fun zz zz => rfl
  | .Call f as ks p, w => cTval w fun zz zz => rfl
  | _, _ => none
noncomputable def compAs (sc : List (Str × NameKind)) : (es : List Expr) → Option {c : IE // KTs B n C sc .And es c}
  | [] => some ⟨.bool true, v_andN⟩
  | e :: r => (compT sc e (compE sc e)).bind fun a => (compAs sc r).map fun b => ⟨.tand a.1 b.1, v_and a.2 b.2⟩
noncomputable def compZs (sc : List (Str × NameKind)) : (es : List Expr) → Option {c : IE // KZs B n C sc es c}
  | [] => some ⟨.bool true, v_z0⟩
  | e :: r => (compT sc e (compE sc e)).bind fun a => (compZs sc r).map fun b => ⟨.tand a.1 b.1, v_z1 a.2 b.2⟩
noncomputable def compOs (sc : List (Str × NameKind)) : (es : List Expr) → Option {c : IE // KTs B n C sc .Or es c}
  | [] => some ⟨.bool false, v_orN⟩
  | e :: r => (compT sc e (compE sc e)).bind fun a => (compOs sc r).map fun b => ⟨.tor a.1 b.1, v_or a.2 b.2⟩
end
end
end Mine
end
-- R20
section
namespace Mine
open PySem PySem.W PySem.Calls PyProof.Rows PySem.SeqAt
noncomputable def FlR (B : Base) (h : Heap) (φ : Links) : Flow → Fl → Prop
  | .next, .next => True
  | .cont, .cont => True
  | .ret v, .ret a => VR B h φ v a
  | _, _ => False
theorem FlR.next {B : Base} {h : Heap} {φ : Links} {f : Flow} (x : FlR B h φ f .next) : f = .next := by
  cases f with
  | next => rfl
  | _ => exact x.elim
theorem FlR.cont {B : Base} {h : Heap} {φ : Links} {f : Flow} (x : FlR B h φ f .cont) : f = .cont := by
  cases f with
  | cont => rfl
  | _ => exact x.elim
theorem FlR.ret {B : Base} {h : Heap} {φ : Links} {f : Flow} {a : AV} (x : FlR B h φ f (.ret a)) : ∃ v, f = .ret v ∧ VR B h φ v a := by
  cases f with
  | ret v => exact ⟨v, rfl, x⟩
  | _ => exact x.elim
noncomputable def EvSOk (B : Base) (n : Nat) (env : PySem.Env) (r : RunS) (t : Sem Flow) : Prop :=
  ∀ (A : Around) (ρ : Vars) (σ : Store) (φ : Links) (s : Shared) (fl : Fl) (ρ' : Vars) (σ' : Store) (Q : Flow → Shared → Prop) (E : Value → Shared → Prop), AOk A n → r ρ σ = some (fl, ρ', σ') → SR B s.heap φ σ → FR B env s.heap φ ρ →
    (∀ f h' tk φ', StepX (fun a => a = env.locals) φ φ' s.heap h' → SR B h' φ' σ' → FR B env h' φ' ρ' → FlR B h' φ' f fl → Q f { s with heap := h', toks := tk }) → wpAny (model B.prog B.w) A t Q E s
section
variable {B : Base} {n : Nat} {C : Handler} {env : PySem.Env} {sc : List (Str × NameKind)}
theorem EvSOk.of {r r' : RunS} {t : Sem Flow} (x : EvSOk B n env r' t) (h : ∀ ρ σ, r ρ σ = r' ρ σ) : EvSOk B n env r t := fun A ρ σ φ s fl ρ' σ' Q E ok e => x A ρ σ φ s fl ρ' σ' Q E ok (h ρ σ ▸ e)
theorem EvSOk.off {r : RunS} {t : Sem Flow} (h : ∀ ρ σ, r ρ σ = none) : EvSOk B n env r t := fun A ρ σ φ s fl ρ' σ' Q E ok e => by rw [h] at e; cases e
theorem swaps_none {e : Expr} (h : notComp e = true) (t : Option Expr) (l : Nat) (env : PySem.Env) : swapsWith e t l env = pure false := by
  cases e <;> first | rfl | exact nomatch (show false = true from h)
theorem exprS {e : Expr} {pos : Pos} {f : Run} (O : EnvOk env sc) (hn : notComp e = true) (I : EvOk B n env f (eval e env)) : EvSOk B n env (fun ρ σ => (f ρ σ).map fun a => (.next, ρ, a.2)) (exec (.Expr e pos) env) := fun A ρ σ φ s fl ρ' σ' Q E ok e S F k => by
  obtain ⟨p, hp, e1⟩ := mapS e
  cases e1
  refine wpAny_Expr_any (I A ρ σ φ s p.1 p.2 _ E ok hp S F fun v h' tk φ' st S' hv => ?_) (by unfold interactive; rw [O.kind]; rfl) (swaps_none hn _ _ _)
  exact k _ h' tk φ' (st.toX S') S' (F.step S st) trivial
theorem retS {e : Expr} {pos : Pos} {f : Run} (I : EvOk B n env f (eval e env)) : EvSOk B n env (fun ρ σ => (f ρ σ).map fun a => (.ret a.1, ρ, a.2)) (exec (.Return (some e) pos) env) := fun A ρ σ φ s fl ρ' σ' Q E ok e S F k => by
  obtain ⟨p, hp, e1⟩ := mapS e
  cases e1
  refine wpAny_Return_some (I A ρ σ φ s p.1 p.2 _ E ok hp S F fun v h' tk φ' st S' hv => ?_)
  exact k _ h' tk φ' (st.toX S') S' (F.step S st) hv
theorem retN {pos : Pos} : EvSOk B n env (fun ρ σ => some (.ret .none, ρ, σ)) (exec (.Return none pos) env) := fun A ρ σ φ s fl ρ' σ' Q E ok e S F k => by
  cases e
  exact wpAny_Return_none (k _ s.heap s.toks φ (StepX.refl _ _ _) S F VR.none)
theorem contS {pos : Pos} : EvSOk B n env (fun ρ σ => some (.cont, ρ, σ)) (exec (.Continue pos) env) := fun A ρ σ φ s fl ρ' σ' Q E ok e S F k => by
  cases e
  exact wpAny_Continue (k _ s.heap s.toks φ (StepX.refl _ _ _) S F trivial)
theorem ifOk {t : Expr} {b o : List Stmt} {pos : Pos} {f : RunB} {g h : RunS} (I0 : EvBOk B n env f (isTrue t env (eval t env))) (I1 : EvSOk B n env g (execs b env)) (I2 : EvSOk B n env h (execs o env)) :
    EvSOk B n env (fun ρ σ => (f ρ σ).bind fun c => if c.1 then g ρ c.2 else h ρ c.2) (exec (.If t b o pos) env) := fun A ρ σ φ s fl ρ' σ' Q E ok e S F k => by
  obtain ⟨p, hp, e⟩ := bindS e
  refine wpAny_If (I0 A ρ σ φ s p.1 p.2 _ E ok hp S F fun h' tk φ' st S' => ?_)
  have k' : ∀ f h'' tk' φ'', StepX (fun a => a = env.locals) φ' φ'' h' h'' → SR B h'' φ'' σ' → FR B env h'' φ'' ρ' → FlR B h'' φ'' f fl → Q f { s with heap := h'', toks := tk' } := fun f h'' tk' φ'' x S'' F'' y => k f h'' tk' φ'' ((st.toX S').trans x) S'' F'' y
  cases hc : p.1 with
  | true =>
    rw [hc] at e
    exact I1 A ρ p.2 φ' { s with heap := h', toks := tk } fl ρ' σ' Q E ok e S' (F.step S st) k'
  | false =>
    rw [hc] at e
    exact I2 A ρ p.2 φ' { s with heap := h', toks := tk } fl ρ' σ' Q E ok e S' (F.step S st) k'
theorem nilB : EvSOk B n env (fun ρ σ => some (.next, ρ, σ)) (execs [] env) := fun A ρ σ φ s fl ρ' σ' Q E ok e S F k => by
  cases e
  exact wpAny_execs_nil (k _ s.heap s.toks φ (StepX.refl _ _ _) S F trivial)
theorem consB {st : Stmt} {r : List Stmt} {f g : RunS} (I1 : EvSOk B n env f (exec st env)) (I2 : EvSOk B n env g (execs r env)) :
    EvSOk B n env (fun ρ σ => (f ρ σ).bind fun p => (match p.1 with
    | .next => g p.2.1 p.2.2
    | f => some (f, p.2.1, p.2.2))) (execs (st :: r) env) := fun A ρ σ φ s fl ρ' σ' Q E ok e S F k => by
  obtain ⟨⟨fl1, ρ1, σ1⟩, hp, e1⟩ := bindS e
  clear e
  refine wpAny_execs_cons (I1 A ρ σ φ s fl1 ρ1 σ1 _ E ok hp S F fun f h' tk φ' x S' F' y => ?_)
  cases fl1 with
  | next =>
    obtain rfl := y.next
    exact I2 A ρ1 σ1 φ' { s with heap := h', toks := tk } fl ρ' σ' Q E ok e1 S' F' fun f h'' tk' φ'' x' S'' F'' y' => k f h'' tk' φ'' (x.trans x') S'' F'' y'
  | cont =>
    obtain rfl := y.cont
    cases e1
    exact k _ h' tk φ' x S' F' trivial
  | ret v =>
    obtain ⟨v', rfl, y⟩ := y.ret
    cases e1
    exact k _ h' tk φ' x S' F' y
noncomputable def TgtOk (B : Base) (env : PySem.Env) (T : AV → Vars → Option Vars) (t : Expr) : Prop := ∀ {v : Value} {a : AV} {ρ ρ' : Vars} {σ : Store} {φ : Links} {s : Shared} {A : Around} {Q : Unit → Shared → Prop} {E : Value → Shared → Prop}, A.handled = none → T a ρ = some ρ' →
    SR B s.heap φ σ → FR B env s.heap φ ρ → VR B s.heap φ v a →
    (∀ h' tk, StepX (fun a => a = env.locals) φ φ s.heap h' → SR B h' φ σ → FR B env h' φ ρ' → Q () { s with heap := h', toks := tk }) → wpAny (model B.prog B.w) A (assign t env v) Q E s
theorem tgt_name (O : EnvOk env sc) {x : Str} {px : Pos} {i : Nat} (hx : locP sc x = some i) : TgtOk B env (setAt i) (.Name x px) := fun hh e S F hv k =>
  wpAny_assign_Name (storeOk O ((setVar_of hx).trans e) S F hv fun h' tk hs S' F' => k h' tk (StepX.at hs.extBut rfl F'.has) S' F')
theorem set2Inv {i j : Nat} {a : AV} {ρ ρ' : Vars} (e : set2At i j a ρ = some ρ') : ∃ a1 a2, a = .tup [a1, a2] ∧ set2At i j (.tup [a1, a2]) ρ = some ρ' := by
  cases a with
  | tup l => cases l with
    | nil => exact no e
    | cons a1 l => cases l with
      | nil => exact no e
      | cons a2 l => cases l with
        | nil => exact ⟨a1, a2, rfl, e⟩
        | cons _ _ => exact no e
  | _ => exact no e
theorem tgt_two (O : EnvOk env sc) {x y : Str} {px py pos : Pos} {x1 : Nat} {i j : Nat} (hx : locP sc x = some i) (hy : locP sc y = some j) : TgtOk B env (set2At i j) (.Tuple [.Name x px, .Name y py] x1 pos) := fun {v a ρ ρ' σ φ s A Q E} hh e S F hv k => by
  obtain ⟨a1, a2, rfl, e⟩ := set2Inv e
  obtain ⟨zz, zz, zz, rfl, ht, r, hl⟩ := hv.inv
  obtain ⟨v1, zz, rfl, r1, r⟩ := r.inv
  obtain ⟨v2, rfl, r2⟩ := r.inv1
  · · · · refine wpAny_assign_Tuple hh ⟨_, ht, rfl, _, rfl⟩ rfl rfl fun h' hx' => ?_
          have kk : ∀ a o, s.heap.get? a = some o → h'.get? a = some o := fun a o e => hx' a o (Nat.ne_of_lt (Heap.lt_size e)) e
          have g := Step.of_grow (φ := φ) kk
          have S1 : SR B h' φ σ := S.grow kk
          have F1 := F.step S g
          show wpAny _ _ (assignInOrder [assign (.Name x px) env, assign (.Name y py) env] _) _ _ _
          unfold assignInOrder
          refine wpAny_bind (wpAny_holding (wpAny_assign_Name (storeOk (s := { s with heap := h' }) O (setVar_of hx) S1 F1 (r1.step S g) fun g2 tk2 hs2 S2 F2 => ?_)))
          unfold assignInOrder
          refine wpAny_bind (wpAny_holding (wpAny_assign_Name (storeOk (s := { s with heap := g2, toks := tk2 }) O ((setVar_of hy).trans e) S2 F2 ((r2.step S g).loose hs2.extBut F1.looseAt) fun h3 tk3 hs3 S3 F3 => ?_)))
          unfold assignInOrder
          refine wpAny_pure ?_
          exact k h3 tk3 (((g.toX (X := fun a => a = env.locals) S1).trans (StepX.at (X := fun a => a = env.locals) hs2.extBut rfl F2.has)).trans (StepX.at (X := fun a => a = env.locals) hs3.extBut rfl F3.has)) S3 F3
noncomputable def EvAOk (B : Base) (n : Nat) (env : PySem.Env) (f : AV → Vars → Store → Option (Vars × Store)) (t : Expr) : Prop :=
  ∀ (A : Around) (v : Value) (a : AV) (ρ : Vars) (σ : Store) (φ : Links) (s : Shared) (ρ' : Vars) (σ' : Store) (Q : Unit → Shared → Prop) (E : Value → Shared → Prop), AOk A n → f a ρ σ = some (ρ', σ') → SR B s.heap φ σ → FR B env s.heap φ ρ → VR B s.heap φ v a →
    (∀ h' tk φ', StepX (fun a => a = env.locals) φ φ' s.heap h' → SR B h' φ' σ' → FR B env h' φ' ρ' → Q () { s with heap := h', toks := tk }) → wpAny (model B.prog B.w) A (assign t env v) Q E s
theorem targetA {T : AV → Vars → Option Vars} {t : Expr} (J : TgtOk B env T t) : EvAOk B n env (fun a ρ σ => (T a ρ).map fun ρ' => (ρ', σ)) t := fun A v a ρ σ φ s ρ' σ' Q E ok e S F hv k => by
  obtain ⟨ρ1, h1, e1⟩ := mapS e
  cases e1
  exact J ok.1 h1 S F hv fun h' tk x S' F' => k h' tk φ x S' F'
theorem asgS {t e : Expr} {pos : Pos} {f : Run} {g : AV → Vars → Store → Option (Vars × Store)} (hn : notComp e = true) (he : (assignEach [t] env).map (·.2) = [assign t env]) (hz : swappedStores [t] e env = pure none) (I : EvOk B n env f (eval e env)) (J : EvAOk B n env g t) :
    EvSOk B n env (fun ρ σ => (f ρ σ).bind fun a => asg (g a.1 ρ a.2)) (exec (.Assign [t] e pos) env) := fun A ρ σ φ s fl ρ' σ' Q E ok e1 S F k => by
  obtain ⟨p, hp, e2⟩ := bindS e1
  obtain ⟨q, hq, e3⟩ := mapS e2
  cases e3
  refine wpAny_Assign_stores (I A ρ σ φ s p.1 p.2 _ E ok hp S F fun v h' tk φ' st S' hv => ?_) (swaps_none hn _ _ _) hz
  rw [he]
  show wpAny _ _ (assign t env v) _ _ _
  exact J A v p.1 ρ p.2 φ' { s with heap := h', toks := tk } q.1 q.2 _ E ok hq S' (F.step S st) hv fun h'' tk' φ'' x S'' F'' => k _ h'' tk' φ'' ((st.toX S').trans x) S'' F'' trivial
theorem swap_tup {ts : List Expr} {k : Nat} {p : Pos} {e : Expr} (h : notTuple e = true) : swappedStores [.Tuple ts k p] e env = pure none := by
  cases e <;> first | rfl | exact nomatch (show false = true from h)
theorem attrA {o : Expr} {x : Str} {m : Nat} {pos : Pos} {f : Run} (G : Good B) (hx : codeOf x = some m) (I : EvOk B n env f (eval o env)) :
    EvAOk B n env (fun a ρ σ => (f ρ σ).bind fun y => (setAttrV y.1 m a y.2).map fun σ' => (ρ, σ')) (.Attribute o x pos) := fun A v a ρ σ φ s ρ' σ' Q E ok e S F hv k => by
  obtain ⟨p, hp, e1⟩ := bindS e
  obtain ⟨σ1, h1, e2⟩ := mapS e1
  cases e2
  show wpAny _ _ (do let ov ← holding [v] (eval o env); standAt pos.atName; holding [v, ov] (setAttr ov x v); release [v, ov] []) _ _ _
  refine wpAny_bind (wpAny_holding (I A ρ σ φ s p.1 p.2 _ E ok hp S F fun u h' tk φ' st S' hu => ?_))
  refine wpAny_bind (wpAny_standAt (wpAny_bind (wpAny_holding ?_)))
  refine setAttrOk (s := { s with heap := h', toks := tk }) G hx h1 S' hu (hv.step S st) fun h'' tk' st' S'' => ?_
  refine wpAny_release ?_
  exact k h'' tk' φ' ((st.trans S' st').toX S'') S'' ((F.step S st).step S' st')
theorem subA {o i : Expr} {pos : Pos} {f g : Run} (I1 : EvOk B n env f (eval o env)) (I2 : EvOk B n env g (eval i env)) :
    EvAOk B n env (fun a ρ σ => (f ρ σ).bind fun x => (g ρ x.2).bind fun k => (setIdxV x.1 k.1 a k.2).map fun σ' => (ρ, σ')) (.Subscript o i pos) := fun A v a ρ σ φ s ρ' σ' Q E ok e S F hv k => by
  obtain ⟨p, hp, e1⟩ := bindS e
  obtain ⟨q, hq, e2⟩ := bindS e1
  obtain ⟨σ1, h1, e3⟩ := mapS e2
  cases e3
  rw [arm_assign_Subscript]
  refine wpAny_bind (wpAny_holding (I1 A ρ σ φ s p.1 p.2 _ E ok hp S F fun u h' tk φ' st S' hu => ?_))
  refine wpAny_bind (wpAny_holding (I2 A ρ p.2 φ' { s with heap := h', toks := tk } q.1 q.2 _ E ok hq S' (F.step S st) fun w h'' tk' φ'' st' S'' hw => ?_))
  refine wpAny_bind (wpAny_standAt (wpAny_bind (wpAny_holding ?_)))
  have st2 := st.trans S' st'
  refine setIdxOk (s := { s with heap := h'', toks := tk' }) h1 S'' (hu.step S' st') hw (hv.step S st2) fun h3 tk3 st3 S3 => ?_
  refine wpAny_release ?_
  exact k h3 tk3 φ'' ((st2.trans S'' st3).toX S3) S3 ((F.step S st2).step S'' st3)
theorem augOk {op : Operator} {a b c : AV} {u v : Value} {φ : Links} {s : Shared} {A : Around} {h : Heap} {Q : Value → Shared → Prop} {E : Value → Shared → Prop} (e : augOp op a b = some c) (hu : VR B h φ u a) (hv : VR B h φ v b)
    (k : ∀ w tk, (∀ h' φ', VR B h' φ' w c) → Q w { s with toks := tk }) : wpAny (model B.prog B.w) A (inplaceOp op u v) Q E s := by
  have twoI : ∀ {o}, augOp o a b = some c → ∃ i j, a = .int i ∧ b = .int j := fun {o} e => by
    cases o with
    | Add => cases a with
      | int i => cases b with
        | int j => exact ⟨i, j, rfl, rfl⟩
        | _ => exact no e
      | _ => exact no e
    | Sub => cases a with
      | int i => cases b with
        | int j => exact ⟨i, j, rfl, rfl⟩
        | _ => exact no e
      | _ => exact no e
    | _ => exact no e
  obtain ⟨i, j, ha, hb⟩ := twoI e
  clear twoI
  subst ha hb
  obtain ⟨t, rfl⟩ := hu.inv
  obtain ⟨t', rfl⟩ := hv.inv
  cases op with
  | Add => cases e; exact PySem.P.iadd_int (k _ _ fun zz zz => .int _ _)
  | Sub => cases e; exact PySem.P.isub_int (k _ _ fun zz zz => .int _ _)
  | _ => exact no e
theorem augAttrS {o value : Expr} {x : Str} {m : Nat} {tpos pos : Pos} {op : Operator} {f g : Run} (G : Good B) (hx : codeOf x = some m) (I1 : EvOk B n env f (eval o env)) (I2 : EvOk B n env g (eval value env)) :
    EvSOk B n env (fun ρ σ => (f ρ σ).bind fun y => (attrV y.1 m y.2).bind fun old => (g ρ y.2).bind fun v => (augOp op old v.1).bind fun w => (setAttrV y.1 m w v.2).map fun σ' => (.next, ρ, σ'))
      (exec (.AugAssign (.Attribute o x tpos) op value pos) env) := fun A ρ σ φ s fl ρ' σ' Q E ok e S F k => by
  obtain ⟨p, hp, e1⟩ := bindS e
  obtain ⟨old, hold, e2⟩ := bindS e1
  obtain ⟨q, hq, e3⟩ := bindS e2
  obtain ⟨w, hw, e4⟩ := bindS e3
  obtain ⟨σ1, h1, e5⟩ := mapS e4
  cases e5
  refine wpAny_AugAssign_AttributeAny (I1 A ρ σ φ s p.1 p.2 _ E ok hp S F fun u h' tk φ' st S' hu => ?_)
  refine attrOk (s := { s with heap := h', toks := tk }) G hx hold S' hu fun u2 h2 tk2 φ2 st2 S2 hu2 => ?_
  have F2 := (F.step S st).step S' st2
  refine I2 A ρ p.2 φ2 { s with heap := h2, toks := tk2 } q.1 q.2 _ E ok hq S2 F2 fun u3 h3 tk3 φ3 st3 S3 hu3 => ?_
  refine augOk hw (hu2.step S2 st3) hu3 fun u4 tk4 hu4 => ?_
  refine setAttrOk (s := { s with heap := h3, toks := tk4 }) G hx h1 S3 ((hu.step S' st2).step S2 st3) (hu4 _ _) fun h5 tk5 st5 S5 => ?_
  exact k _ h5 tk5 φ3 ((((st.trans S' st2).trans S2 st3).trans S3 st5).toX S5) S5 ((F2.step S2 st3).step S3 st5) trivial
theorem augSubS {o i value : Expr} {tpos pos : Pos} {op : Operator} {f g h : Run} (hi : notSlice i = true) (I1 : EvOk B n env f (eval o env)) (I2 : EvOk B n env g (eval i env)) (I3 : EvOk B n env h (eval value env)) :
    EvSOk B n env (fun ρ σ => (f ρ σ).bind fun x => (g ρ x.2).bind fun k => (idxV x.1 k.1 k.2).bind fun old => (h ρ k.2).bind fun v => (augOp op old v.1).bind fun w => (setIdxV x.1 k.1 w v.2).map fun σ' => (.next, ρ, σ'))
      (exec (.AugAssign (.Subscript o i tpos) op value pos) env) := fun A ρ σ φ s fl ρ' σ' Q E ok e S F k => by
  obtain ⟨p, hp, e1⟩ := bindS e
  obtain ⟨p2, hp2, e2⟩ := bindS e1
  obtain ⟨old, hold, e3⟩ := bindS e2
  obtain ⟨q, hq, e4⟩ := bindS e3
  obtain ⟨w, hw, e5⟩ := bindS e4
  obtain ⟨σ1, h1, e6⟩ := mapS e5
  cases e6
  refine wpAny_AugAssign_SubscriptAny (I1 A ρ σ φ s p.1 p.2 _ E ok hp S F fun u h' tk φ' st S' hu => ?_) (fun ov iv new => by cases i <;> first | rfl | exact nomatch (show false = true from hi))
  refine I2 A ρ p.2 φ' { s with heap := h', toks := tk } p2.1 p2.2 _ E ok hp2 S' (F.step S st) fun ui h2 tk2 φ2 st2 S2 hui => ?_
  have F2 := (F.step S st).step S' st2
  refine idxOk (s := { s with heap := h2, toks := tk2 }) hold S2 (hu.step S' st2) hui fun u3 h3 tk3 φ3 st3 S3 hu3 => ?_
  have F3 := F2.step S2 st3
  refine I3 A ρ p2.2 φ3 { s with heap := h3, toks := tk3 } q.1 q.2 _ E ok hq S3 F3 fun u4 h4 tk4 φ4 st4 S4 hu4 => ?_
  refine augOk hw (hu3.step S3 st4) hu4 fun u5 tk5 hu5 => ?_
  refine setIdxOk (s := { s with heap := h4, toks := tk5 }) h1 S4 (((hu.step S' st2).step S2 st3).step S3 st4) ((hui.step S2 st3).step S3 st4) (hu5 _ _) fun h6 tk6 st6 S6 => ?_
  exact k _ h6 tk6 φ4 (((((st.trans S' st2).trans S2 st3).trans S3 st4).trans S4 st6).toX S6) S6 ((F3.step S3 st4).step S4 st6) trivial
end
end Mine
end
-- R21
section
namespace Mine
open PySem PySem.W PySem.Calls PyProof.Rows PySem.SeqAt
section
variable {B : Base} {n : Nat} {C : Handler} {env : PySem.Env} {sc : List (Str × NameKind)}
inductive WhileAt (B : Base) (env : PySem.Env) (f : RunB) (g : RunS) (s : Shared) (φ : Links) (res : Fl × Vars × Store) : Nat → Shared → Prop
  | mk {k : Nat} {h : Heap} {tk : Nat} {φ₁ : Links} {ρ₁ : Vars} {σ₁ : Store} : StepX (fun a => a = env.locals) φ φ₁ s.heap h → SR B h φ₁ σ₁ → FR B env h φ₁ ρ₁ → whileV f g k ρ₁ σ₁ = some res → WhileAt B env f g s φ res k { s with heap := h, toks := tk }
theorem whileLoopOk {t : Expr} {b : List Stmt} {f : RunB} {g : RunS} (I0 : EvBOk B n env f (isTrue t env (eval t env))) (I1 : EvSOk B n env g (execs b env)) {A : Around} (ok : AOk A n) {s : Shared} {φ : Links} {res : Fl × Vars × Store} {R : Result → Shared → Prop}
    (fin : ∀ fl h tk φ', StepX (fun a => a = env.locals) φ φ' s.heap h → SR B h φ' res.2.2 → FR B env h φ' res.2.1 → FlR B h φ' fl res.1 → R (.ok fl) { s with heap := h, toks := tk }) :
    ∀ {k : Nat} {h : Heap} {tk : Nat} {φ₁ : Links} {ρ₁ : Vars} {σ₁ : Store}, StepX (fun a => a = env.locals) φ φ₁ s.heap h → SR B h φ₁ σ₁ → FR B env h φ₁ ρ₁ → whileV f g k ρ₁ σ₁ = some res →
      codeAny (model B.prog B.w) A (.whileLoop t b [] env) R { s with heap := h, toks := tk } := by
  intro k h tk φ₁ ρ₁ σ₁ x1 S1 F1 e1
  refine codeAny_whileLoop (WhileAt B env f g s φ res) ?_ k (.mk x1 S1 F1 e1)
  clear x1 S1 F1 e1 h tk φ₁ ρ₁ σ₁ k
  intro m s' X
  cases X with
  | @mk h tk φ₁ ρ₁ σ₁ x1 S1 F1 e1 => ?_
  cases m with
  | zero => exact no e1
  | succ m =>
    have e1 : (match f ρ₁ σ₁ with
      | some (false, σ') => some (.next, ρ₁, σ')
      | some (true, σ') => (match g ρ₁ σ' with
        | some (.ret u, ρ', σ'') => some (.ret u, ρ', σ'')
        | some (_, ρ', σ'') => whileV f g m ρ' σ''
        | none => none)
      | none => none) = some res := e1
    cases hp : f ρ₁ σ₁ with
    | none => rw [hp] at e1; exact no e1
    | some p =>
      rw [hp] at e1
      refine I0 A ρ₁ σ₁ φ₁ { s with heap := h, toks := tk } p.1 p.2 _ _ ok hp S1 F1 fun h' tk' φ' st S' => ?_
      obtain ⟨c, σ2⟩ := p
      have x2 := x1.trans (st.toX S')
      have F2 := F1.step S1 st
      cases c with
      | false =>
        cases e1
        exact wpAny_execs_nil (fin .next h' tk' φ' x2 S' F2 trivial)
      | true =>
        dsimp only at e1
        cases hq : g ρ₁ σ2 with
        | none => rw [hq] at e1; exact no e1
        | some q =>
          rw [hq] at e1
          obtain ⟨fl, ρ3, σ3⟩ := q
          refine I1 A ρ₁ σ2 φ' { s with heap := h', toks := tk' } fl ρ3 σ3 _ _ ok hq S' F2 fun f3 h3 tk3 φ3 x3 S3 F3 y3 => ?_
          have x4 := x2.trans x3
          cases fl with
          | next => obtain rfl := y3.next; exact ⟨m, Nat.lt_succ_self _, .mk x4 S3 F3 e1⟩
          | cont => obtain rfl := y3.cont; exact ⟨m, Nat.lt_succ_self _, .mk x4 S3 F3 e1⟩
          | ret u =>
            obtain rfl := Option.some.inj e1
            obtain ⟨v, rfl, zz⟩ := y3.ret
            exact fin _ h3 tk3 φ3 x4 S3 F3 y3
theorem whileS {t : Expr} {b : List Stmt} {pos : Pos} {f : RunB} {g : RunS} {W : Nat} (I0 : EvBOk B n env f (isTrue t env (eval t env))) (I1 : EvSOk B n env g (execs b env)) :
    EvSOk B n env (fun ρ σ => whileV f g W ρ σ) (exec (.While t b [] pos) env) := fun A ρ σ φ s fl ρ' σ' Q E ok e S F k => by
  refine wpAny_While ?_
  exact whileLoopOk (s := s) I0 I1 ok (R := fun r s' => match r with | .ok f => Q f s' | .error e => cameBackBy (model B.prog B.w) A env E e s') (fun fl' h tk φ' x S' F' y => k fl' h tk φ' x S' F' y) (StepX.refl _ _ _) S F e
inductive ForAt (B : Base) (env : PySem.Env) (T : AV → Vars → Option Vars) (g : RunS) (it : Iter) (I : Addr) (s : Shared) (φ : Links) (res : Fl × Vars × Store) : Nat → Shared → Prop
  | mk {h : Heap} {tk : Nat} {φ₁ : Links} {ρ₁ : Vars} {σ₁ : Store} {i : Nat} : StepX (fun a => a = I ∨ a = env.locals) φ φ₁ s.heap h → SR B h φ₁ σ₁ → FR B env h φ₁ ρ₁ → ItAt B h φ₁ I it i →
      loopV (fun v ρ' σ' => (T v ρ').bind fun ρ'' => g ρ'' σ') it (it.1.drop i) ρ₁ σ₁ = some res → ForAt B env T g it I s φ res (it.1.drop i).length { s with heap := h, toks := tk }
theorem forLoopOk {t : Expr} {b : List Stmt} {g : RunS} {T : AV → Vars → Option Vars} (J : TgtOk B env T t) (I1 : EvSOk B n env g (execs b env)) {A : Around} (ok : AOk A n) {it : Iter} {I : Addr} {s : Shared} {φ : Links} {σ : Store} (S0 : SR B s.heap φ σ)
    (nI : s.heap.get? I = none) (hIL : env.locals ≠ I) {res : Fl × Vars × Store} {R : Result → Shared → Prop}
    (fin : ∀ fl h tk φ', StepX (fun a => a = I ∨ a = env.locals) φ φ' s.heap h → SR B h φ' res.2.2 → FR B env h φ' res.2.1 → FlR B h φ' fl res.1 → R (.ok fl) { s with heap := h, toks := tk }) :
    ∀ {h : Heap} {tk : Nat} {φ₁ : Links} {ρ₁ : Vars} {σ₁ : Store} {i : Nat}, StepX (fun a => a = I ∨ a = env.locals) φ φ₁ s.heap h → SR B h φ₁ σ₁ → FR B env h φ₁ ρ₁ → ItAt B h φ₁ I it i →
      loopV (fun v ρ' σ' => (T v ρ').bind fun ρ'' => g ρ'' σ') it (it.1.drop i) ρ₁ σ₁ = some res →
      codeAny (model B.prog B.w) A (.forLoop t (.ref I) b [] env) R { s with heap := h, toks := tk } := by
  intro h tk φ₁ ρ₁ σ₁ i x1 S1 F1 t1 e1
  have hbI : B.hb.get? I = none := S0.base_none nI
  refine codeAny_forLoop_any (ForAt B env T g it I s φ res) ?_ (it.1.drop i).length (.mk x1 S1 F1 t1 e1)
  clear x1 S1 F1 t1 e1 h tk φ₁ ρ₁ σ₁ i
  intro m s' X
  cases X with
  | @mk h tk φ₁ ρ₁ σ₁ i x1 S1 F1 t1 e1 => ?_
  have loI := t1.loose
  have offI := t1.off S1
  have hok : it.ok σ₁ = true := by
    cases hd : it.1.drop i with
    | nil => rw [hd] at e1; exact (ifS e1).1
    | cons a r => rw [hd] at e1; exact (ifS e1).1
  refine ItAt.next ok.1 S1 t1 hok (fun a ha h' tk' v k1 t2 hv => ?_) (fun hn h' k1 => ?_)
  · have S2 := S1.loose k1 hbI offI loI
    have F2 := F1.loose k1 loI hIL
    have x2 := x1.last nI k1
    cases hd : it.1.drop i with
    | nil => rw [drop_nil hd] at ha; cases ha
    | cons a' rest =>
      obtain ⟨ha', hrest⟩ := drop_cons hd
      rw [ha] at ha'; cases ha'
      rw [hd] at e1
      have e1 : (match (T a ρ₁).bind fun ρ'' => g ρ'' σ₁ with
        | some (.ret u, ρ', σ') => some (.ret u, ρ', σ')
        | some (_, ρ', σ') => loopV (fun v ρ' σ' => (T v ρ').bind fun ρ'' => g ρ'' σ') it rest ρ' σ'
        | none => none) = some res := (ifS e1).2
      cases hst : (T a ρ₁).bind fun ρ'' => g ρ'' σ₁ with
      | none => rw [hst] at e1; exact no e1
      | some q =>
        rw [hst] at e1
        obtain ⟨ρ', hset, hg⟩ := bindS hst
        obtain ⟨fl, ρ3, σ3⟩ := q
        refine ItAt.go (s := { s with heap := h', toks := tk' }) t2 ?_
        refine J (s := { s with heap := h', toks := tk' }) ok.1 hset S2 F2 hv fun h3 tk3 x3 S3 F3 => ?_
        have loL : ∀ a o, a = env.locals → h'.get? a = some o → Loose o := fun a o q e => F2.looseAt o (q ▸ e)
        have t3 := t2.stepX S2 x3 loL (Ne.symm hIL)
        refine I1 A ρ' σ₁ φ₁ { s with heap := h3, toks := tk3 } fl ρ3 σ3 _ _ ok hg S3 F3 fun f4 h4 tk4 φ4 x4 S4 F4 y4 => ?_
        have loL3 : ∀ a o, a = env.locals → h3.get? a = some o → Loose o := fun a o q e => F3.looseAt o (q ▸ e)
        have t4 := t3.stepX S3 x4 loL3 (Ne.symm hIL)
        have x5 : StepX (fun a => a = I ∨ a = env.locals) φ φ4 s.heap h4 := (x2.trans (x3.mono fun a q => .inl (.inr q))).trans (x4.mono fun a q => .inl (.inr q))
        cases fl with
        | next =>
          obtain rfl := y4.next
          exact ⟨_, by rw [hrest]; exact Nat.lt_succ_self _, .mk x5 S4 F4 t4 (hrest ▸ e1)⟩
        | cont =>
          obtain rfl := y4.cont
          exact ⟨_, by rw [hrest]; exact Nat.lt_succ_self _, .mk x5 S4 F4 t4 (hrest ▸ e1)⟩
        | ret u =>
          obtain rfl := Option.some.inj e1
          obtain ⟨v, rfl, zz⟩ := y4.ret
          exact fin _ h4 tk4 φ4 x5 S4 F4 y4
  · cases hd : it.1.drop i with
    | cons a' rest =>
      obtain ⟨ha', hrest⟩ := drop_cons hd
      rw [ha'] at hn; cases hn
    | nil =>
      rw [hd] at e1
      obtain rfl := Option.some.inj (ifS e1).2
      exact wpAny_execs_nil (fin .next h' tk φ₁ (x1.last nI k1) (S1.loose k1 hbI offI loI) (F1.loose k1 loI hIL) trivial)
theorem forS {t iter : Expr} {b : List Stmt} {pos : Pos} {f : Vars → Store → Option (Iter × Store)} {g : RunS} {T : AV → Vars → Option Vars} (J : TgtOk B env T t) (hfold : ∀ x, foldedSetIterable iter env x = pure x) (I0 : ItOk B n env f iter) (I1 : EvSOk B n env g (execs b env)) :
    EvSOk B n env (fun ρ σ => (f ρ σ).bind fun x => loopV (fun v ρ' σ' => (T v ρ').bind fun ρ'' => g ρ'' σ') x.1 x.1.1 ρ x.2) (exec (.For t iter b [] pos) env) := fun A ρ σ φ s fl ρ' σ' Q E ok e S F k => by
  obtain ⟨p, hp, e1⟩ := bindS e
  refine wpAny_For (I0 A ρ σ φ s p.1 p.2 _ E ok hp S F fun h' tk φ' I st nI S' t' => ?_) hfold
  obtain ⟨oL, hL⟩ := F.has
  have hIL : env.locals ≠ I := fun q => by rw [q, nI] at hL; cases hL
  exact forLoopOk (s := s) J I1 ok (it := p.1) S nI hIL (R := fun r s' => match r with | .ok f => Q f s' | .error e => cameBackBy (model B.prog B.w) A env E e s')
    (fun fl' h2 tk2 φ2 x S2 F2 y => k fl' h2 tk2 φ2 (x.mono fun a q => q.elim (fun q => .inr (q ▸ nI)) .inl) S2 F2 y) (i := 0) (st.toX S') S' (F.step S st) t' e1
end
section
variable {B : Base} {n : Nat} {C : Handler} {sc : List (Str × NameKind)} {W : Nat}
noncomputable def KB (B : Base) (n : Nat) (C : Handler) (W : Nat) (sc : List (Str × NameKind)) (b : List Stmt) (c : IS) : Prop := ∀ env, EnvOk env sc → EvSOk B n env (runB W B.ns C c) (execs b env)
noncomputable def KS (B : Base) (n : Nat) (sc : List (Str × NameKind)) (s : Stmt) (f : RunS) : Prop := ∀ env, EnvOk env sc → EvSOk B n env f (exec s env)
theorem u_nil : KB B n C W sc [] .done := fun zz zz => nilB
theorem u_then {s : Stmt} {r : List Stmt} {c cr : IS} {f : RunS} (h : KS B n sc s f) (hr : KB B n C W sc r cr) (e : ∀ ρ σ, runB W B.ns C c ρ σ = thenB (f ρ σ) (runB W B.ns C cr)) : KB B n C W sc (s :: r) c := fun env O => (consB (h env O) (hr env O)).of e
theorem u_last {s : Stmt} {r : List Stmt} {c : IS} (h : KS B n sc s (runB W B.ns C c)) (e : ∀ ρ σ, runB W B.ns C c ρ σ = thenB (runB W B.ns C c ρ σ) (fun zz zz => none)) : KB B n C W sc (s :: r) c := fun env O => (consB (h env O) (EvSOk.off fun zz zz => rfl)).of e
section
variable {r : List Stmt} {cr : IS}
theorem u_expr {e : Expr} {p : Pos} {a : IE} (hn : notComp e = true) (ha : KE B n C sc e a) (hr : KB B n C W sc r cr) : KB B n C W sc (.Expr e p :: r) (.expr a cr) := u_then (fun env O => exprS O hn (ha env O)) hr fun zz zz => rfl
theorem u_ret {e : Expr} {p : Pos} {a : IE} (ha : KE B n C sc e a) : KB B n C W sc (.Return (some e) p :: r) (.ret a) := u_last (fun env O => retS (ha env O)) fun ρ σ => by
  show _ = thenB ((runE B.ns C a ρ σ).map _) _
  show (runE B.ns C a ρ σ).map _ = _
  cases runE B.ns C a ρ σ <;> rfl
theorem u_retN {p : Pos} : KB B n C W sc (.Return none p :: r) .retN := u_last (fun zz zz => retN) fun zz zz => rfl
theorem u_cont {p : Pos} : KB B n C W sc (.Continue p :: r) .cont := u_last (fun zz zz => contS) fun zz zz => rfl
theorem u_set {x : Str} {xp p : Pos} {e : Expr} {i : Nat} {a : IE} (hn : notComp e = true) (hx : locP sc x = some i) (ha : KE B n C sc e a) (hr : KB B n C W sc r cr) : KB B n C W sc (.Assign [.Name x xp] e p :: r) (.set i a cr) :=
  u_then (fun env O => asgS hn rfl rfl (ha env O) (targetA (tgt_name O hx))) hr fun zz zz => rfl
theorem u_set2 {x y : Str} {xp yp tp p : Pos} {k : Nat} {e : Expr} {i j : Nat} {a : IE} (hn : notComp e = true) (ht : notTuple e = true) (hx : locP sc x = some i) (hy : locP sc y = some j) (ha : KE B n C sc e a) (hr : KB B n C W sc r cr) : KB B n C W sc (.Assign [.Tuple [.Name x xp, .Name y yp] k tp] e p :: r) (.set2 i j a cr) :=
  u_then (fun env O => asgS hn rfl (swap_tup ht) (ha env O) (targetA (tgt_two O hx hy))) hr fun zz zz => rfl
theorem u_setA (G : Good B) {o e : Expr} {x : Str} {ap p : Pos} {m : Nat} {a c : IE} (hn : notComp e = true) (hx : codeOf x = some m) (ho : KE B n C sc o a) (he : KE B n C sc e c) (hr : KB B n C W sc r cr) : KB B n C W sc (.Assign [.Attribute o x ap] e p :: r) (.setA a m c cr) :=
  u_then (fun env O => asgS hn rfl rfl (he env O) (attrA G hx (ho env O))) hr fun zz zz => rfl
theorem u_setI {o i e : Expr} {ap p : Pos} {a b c : IE} (hn : notComp e = true) (ho : KE B n C sc o a) (hi : KE B n C sc i b) (he : KE B n C sc e c) (hr : KB B n C W sc r cr) : KB B n C W sc (.Assign [.Subscript o i ap] e p :: r) (.setI a b c cr) :=
  u_then (fun env O => asgS hn rfl rfl (he env O) (subA (ho env O) (hi env O))) hr fun zz zz => rfl
theorem u_augA (G : Good B) {o e : Expr} {x : Str} {ap p : Pos} {op : Operator} {m : Nat} {a c : IE} (hx : codeOf x = some m) (ho : KE B n C sc o a) (he : KE B n C sc e c) (hr : KB B n C W sc r cr) : KB B n C W sc (.AugAssign (.Attribute o x ap) op e p :: r) (.augA a m op c cr) :=
  u_then (fun env O => augAttrS G hx (ho env O) (he env O)) hr fun zz zz => rfl
theorem u_augI {o i e : Expr} {ap p : Pos} {op : Operator} {a b c : IE} (hs : notSlice i = true) (ho : KE B n C sc o a) (hi : KE B n C sc i b) (he : KE B n C sc e c) (hr : KB B n C W sc r cr) : KB B n C W sc (.AugAssign (.Subscript o i ap) op e p :: r) (.augI a b op c cr) :=
  u_then (fun env O => augSubS hs (ho env O) (hi env O) (he env O)) hr fun zz zz => rfl
theorem u_if {t : Expr} {b o : List Stmt} {p : Pos} {a : IE} {cb co : IS} (ht : KT B n C sc t a) (hb : KB B n C W sc b cb) (ho : KB B n C W sc o co) (hr : KB B n C W sc r cr) : KB B n C W sc (.If t b o p :: r) (.iff a cb co cr) :=
  u_then (fun env O => ifOk (ht env O) (hb env O) (ho env O)) hr fun zz zz => rfl
theorem u_while {t : Expr} {b : List Stmt} {p : Pos} {a : IE} {cb : IS} (ht : KT B n C sc t a) (hb : KB B n C W sc b cb) (hr : KB B n C W sc r cr) : KB B n C W sc (.While t b [] p :: r) (.whil a cb cr) :=
  u_then (fun env O => whileS (ht env O) (hb env O)) hr fun zz zz => rfl
theorem u_for1 {x : Str} {it : Expr} {b : List Stmt} {xp p : Pos} {i : Nat} {k : IK} {c : IE} {cb : IS} (hx : locP sc x = some i) (hi : KI B n C sc it k c) (hb : KB B n C W sc b cb) (hr : KB B n C W sc r cr) : KB B n C W sc (.For (.Name x xp) it b [] p :: r) (.for1 k i c cb cr) :=
  u_then (fun env O => forS (tgt_name O hx) (hi.1 env) (hi.2 env O) (hb env O)) hr fun zz zz => rfl
theorem u_for2 {x y : Str} {it : Expr} {b : List Stmt} {xp yp tp p : Pos} {k i j : Nat} {c : IE} {cb : IS} (hx : locP sc x = some i) (hy : locP sc y = some j) (hi : KI B n C sc it .plain c) (hb : KB B n C W sc b cb) (hr : KB B n C W sc r cr) : KB B n C W sc (.For (.Tuple [.Name x xp, .Name y yp] k tp) it b [] p :: r) (.for2 i j c cb cr) :=
  u_then (fun env O => forS (tgt_two O hx hy) (hi.1 env) (hi.2 env O) (hb env O)) hr fun zz zz => rfl
end
noncomputable abbrev RB (B : Base) (n : Nat) (C : Handler) (W : Nat) (sc : List (Str × NameKind)) (b : List Stmt) := Option {c : IS // KB B n C W sc b c}
variable (G : Good B) (H : HOk B n C)
noncomputable def cAssign (e : Expr) (p : Pos) (r : List Stmt) (a : RE B n C sc e) (cr : RB B n C W sc r) (hn : notComp e = true) : (t : Expr) → RB B n C W sc (.Assign [t] e p :: r)
  | .Name x xp => (match hx : locP sc x with
    | some i => a.bind fun a => cr.map fun c => ⟨.set i a.1 c.1, u_set hn hx a.2 c.2⟩
    | none => none)
  | .Attribute o m ap => (match hm : codeOf m with
    | some n => (compE G H sc o).bind fun x => a.bind fun a => cr.map fun c => ⟨.setA x.1 n a.1 c.1, u_setA G hn hm x.2 a.2 c.2⟩
    | none => none)
  | .Subscript o i ap => (compE G H sc o).bind fun x => (compE G H sc i).bind fun y => a.bind fun a => cr.map fun c => ⟨.setI x.1 y.1 a.1 c.1, u_setI hn x.2 y.2 a.2 c.2⟩
  | .Tuple [.Name x xp, .Name y yp] k tp => if ht : notTuple e = true then (match hx : locP sc x with
    | some i => (match hy : locP sc y with
      | some j => a.bind fun a => cr.map fun c => ⟨.set2 i j a.1 c.1, u_set2 hn ht hx hy a.2 c.2⟩
      | none => none)
    | none => none) else none
  | _ => none
noncomputable def cAug (op : Operator) (e : Expr) (p : Pos) (r : List Stmt) (cr : RB B n C W sc r) : (t : Expr) → RB B n C W sc (.AugAssign t op e p :: r)
  | .Attribute o m ap => (match hm : codeOf m with
    | some n => (compE G H sc o).bind fun x => (compE G H sc e).bind fun a => cr.map fun c => ⟨.augA x.1 n op a.1 c.1, u_augA G hm x.2 a.2 c.2⟩
    | none => none)
  | .Subscript o i ap => if hi : notSlice i = true then (compE G H sc o).bind fun x => (compE G H sc i).bind fun y => (compE G H sc e).bind fun a => cr.map fun c => ⟨.augI x.1 y.1 op a.1 c.1, u_augI hi x.2 y.2 a.2 c.2⟩ else none
  | _ => none
noncomputable def cFor (it : Expr) (p : Pos) (b r : List Stmt) (cb : RB B n C W sc b) (cr : RB B n C W sc r) : (t : Expr) → RB B n C W sc (.For t it b [] p :: r)
  | .Name x xp => (match hx : locP sc x with
    | some i => (compI G H sc it (compE G H sc it)).bind fun c => cb.bind fun b => cr.map fun r => ⟨.for1 c.1.1 i c.1.2 b.1 r.1, u_for1 hx c.2 b.2 r.2⟩
    | none => none)
  | .Tuple [.Name x xp, .Name y yp] k tp => (match hx : locP sc x with
    | some i => (match hy : locP sc y with
      | some j => if h : notSet it = true then (compE G H sc it).bind fun c => cb.bind fun b => cr.map fun r => ⟨.for2 i j c.1 b.1 r.1, u_for2 hx hy (v_iter h c.2) b.2 r.2⟩ else none
      | none => none)
    | none => none)
  | _ => none
mutual
noncomputable def compS : (s : Stmt) → (r : List Stmt) → RB B n C W sc r → RB B n C W sc (s :: r)
  | .Expr e p, r, cr => if h : notComp e = true then (compE G H sc e).bind fun a => cr.map fun c => ⟨.expr a.1 c.1, u_expr h a.2 c.2⟩ else none
  | .Return none p, r, _ => some ⟨.retN, u_retN⟩
  | .Return (some e) p, r, _ => (compE G H sc e).map fun a => ⟨.ret a.1, u_ret a.2⟩
  | .Continue p, r, _ => some ⟨.cont, u_cont⟩
  | .Assign [t] e p, r, cr => if h : notComp e = true then cAssign G H e p r (compE G H sc e) cr h t else none
  | .AugAssign t op e p, r, cr => cAug G H op e p r cr t
  | .If t b o p, r, cr => (compT G H sc t (compE G H sc t)).bind fun c => (compB b).bind fun x => (compB o).bind fun y => cr.map fun z => ⟨.iff c.1 x.1 y.1 z.1, u_if c.2 x.2 y.2 z.2⟩
  | .While t b [] p, r, cr => (compT G H sc t (compE G H sc t)).bind fun c => (compB b).bind fun x => cr.map fun z => ⟨.whil c.1 x.1 z.1, u_while c.2 x.2 z.2⟩
  | .For t it b [] p, r, cr => cFor G H it p b r (compB b) cr t
  | _, _, _ => none
noncomputable def compB : (b : List Stmt) → RB B n C W sc b
  | [] => some ⟨.done, u_nil⟩
  | s :: r => compS s r (compB r)
end
end
end Mine
end
-- R22
section
namespace Mine
open PySem PySem.W PySem.Calls PyProof.Rows PySem.SeqAt
noncomputable def nodupB : List Str → Bool
  | [] => true
  | x :: r => !r.any (fun y => seq x y) && nodupB r
theorem nodupB_ok : ∀ {l : List Str}, nodupB l = true → l.Nodup
  | [], _ => .nil
  | x :: r, h => by
    unfold nodupB at h
    obtain ⟨h1, h2⟩ := Bool.and_eq_true_iff.mp h
    refine List.nodup_cons.mpr ⟨fun hm => ?_, nodupB_ok h2⟩
    have : r.any (fun y => seq x y) = true := List.any_eq_true.mpr ⟨x, hm, seq_iff.mpr rfl⟩
    rw [this] at h1; cases h1
noncomputable def allFns : List Fn := fnGlobals ++ fnMeths ++ [.mkInit, .thInit]
theorem allFns_all (f : Fn) : f ∈ allFns := by cases f <;> decide
theorem params_b : (allFns.all fun f => match info f with | some i => nodupB i.params | none => true) = true := by decide +kernel
theorem params_nodup {f : Fn} {i : Info} (h : info f = some i) : i.params.Nodup := by
  have := List.all_eq_true.mp params_b f (allFns_all f)
  rw [h] at this
  exact nodupB_ok this
theorem lookup_mem_nodup {β : Type} {x : Str} {v : β} : ∀ {l : List (Str × β)}, (l.map (·.1)).Nodup → (x, v) ∈ l → l.lookup x = some v
  | [], _, h => by cases h
  | (y, u) :: r, nd, h => by
    rw [List.map_cons, List.nodup_cons] at nd
    rw [List.lookup_cons]
    rcases List.mem_cons.mp h with e | h
    · cases e; simp
    · have hne : (x == y) = false := beq_false_of_ne fun e => nd.1 (by rw [← e]; exact List.mem_map.mpr ⟨_, h, rfl⟩)
      rw [hne]
      exact lookup_mem_nodup nd.2 h
theorem bindL_other {k : Str → Option NameKind} {x : Str} : ∀ {l : List (Str × Value)} {m : Str → Option Value}, x ∉ l.map (·.1) → bindL k l m x = m x
  | [], _, _ => rfl
  | (y, u) :: r, m, h => by
    rw [List.map_cons, List.mem_cons, not_or] at h
    unfold bindL
    rw [bindL_other h.2]
    split
    · exact if_neg h.1
    · rfl
theorem bindC_other {k : Str → Option NameKind} {x : Str} : ∀ {l : List (Str × Value)} {m : Str → Option Value}, x ∉ l.map (·.1) → bindC k l m x = m x
  | [], _, _ => rfl
  | (y, u) :: r, m, h => by
    rw [List.map_cons, List.mem_cons, not_or] at h
    unfold bindC
    rw [bindC_other h.2]
    split
    · rfl
    · exact if_neg h.1
theorem bindL_mem {k : Str → Option NameKind} {x : Str} {v : Value} (hk : k x = some .local) : ∀ {l : List (Str × Value)} {m : Str → Option Value}, (l.map (·.1)).Nodup → (x, v) ∈ l → bindL k l m x = some v
  | [], _, _, h => by cases h
  | (y, u) :: r, m, nd, h => by
    rw [List.map_cons, List.nodup_cons] at nd
    unfold bindL
    rcases List.mem_cons.mp h with e | h
    · cases e
      rw [bindL_other nd.1, if_pos hk]; simp
    · exact bindL_mem hk nd.2 h
theorem bindC_mem {k : Str → Option NameKind} {x : Str} {v : Value} (hk : k x = some .cell) : ∀ {l : List (Str × Value)} {m : Str → Option Value}, (l.map (·.1)).Nodup → (x, v) ∈ l → bindC k l m x = some v
  | [], _, _, h => by cases h
  | (y, u) :: r, m, nd, h => by
    rw [List.map_cons, List.nodup_cons] at nd
    unfold bindC
    rcases List.mem_cons.mp h with e | h
    · cases e
      rw [bindC_other nd.1, if_neg (by rw [hk]; decide)]; simp
    · exact bindC_mem hk nd.2 h
theorem cellsFrom_some {x : Str} : ∀ {names : List (Str × NameKind)} {n : Nat} {acc : List (Str × Addr)}, (acc.lookup x).isSome = true ∨ (x, NameKind.cell) ∈ names → ((cellsFrom n names acc).lookup x).isSome = true
  | [], _, _, h => by
    rcases h with h | h
    · exact h
    · cases h
  | (y, k) :: r, n, acc, h => by
    unfold cellsFrom
    have add : (acc.lookup x).isSome = true → ((((y, n) :: acc) : List (Str × Addr)).lookup x).isSome = true := fun h => by
      rw [List.lookup_cons]
      split
      · rfl
      · exact h
    split
    · rename_i hk
      refine cellsFrom_some ?_
      rcases h with h | h
      · exact .inl (add h)
      · rcases List.mem_cons.mp h with e | h
        · cases e; exact .inl (by rw [List.lookup_cons]; simp)
        · exact .inr h
    · rename_i hk
      refine cellsFrom_some ?_
      rcases h with h | h
      · exact .inl h
      · rcases List.mem_cons.mp h with e | h
        · cases e; exact absurd rfl hk
        · exact .inr h
section
variable {B : Base} {h : Heap} {φ : Links}
theorem argOf_mem {x : Str} {a : AV} : ∀ {ps : List Str} {vs : List Value} {as : List AV}, VRs B h φ vs as → argOf x ps as = some a → ∃ v, (x, v) ∈ ps.zip vs ∧ VR B h φ v a
  | [], _, _, _, e => by unfold argOf at e; cases e
  | p :: ps, _, _, .nil, e => by unfold argOf at e; cases e
  | p :: ps, _, _, .cons v r, e => by
    unfold argOf at e
    split at e
    · rename_i hp
      cases e
      have := seq_iff.mp hp
      subst this
      exact ⟨_, .head _, v⟩
    · obtain ⟨w, hw, hr⟩ := argOf_mem r e
      exact ⟨w, .tail _ hw, hr⟩
theorem zip_keys : ∀ {ps : List Str} {vs : List Value}, vs.length = ps.length → (ps.zip vs).map (·.1) = ps
  | [], _, _ => by simp
  | p :: ps, [], e => by simp at e
  | p :: ps, v :: vs, e => by simp at e; simp [zip_keys e]
theorem init_get {names : List (Str × NameKind)} {ps : List Str} {as : List AV} {x : Str} {i : Nat} {a : AV} (h1 : place x names = some i) (h2 : ((initVars names ps as)[i]?).join = some a) : argOf x ps as = some a := by
  obtain ⟨k, hk, zz⟩ := place_lookup h1
  unfold initVars at h2
  rw [List.getElem?_map, hk] at h2
  simpa using h2
end
section
variable {B : Base} {n : Nat} (G : Good B) (W : Nat)
noncomputable def ofInfo {C : Handler} (G : Good B) (H : HOk B n C) (i : Info) : Option (IS × List (Option Nat) × Nat) := (compB (W := W) (sc := i.names) G H i.body).map fun c => (c.1, plOf i.params i.names, i.params.length)
theorem fn_ok {C : Handler} (G : Good B) (H : HOk B n C) (f : Fn) : (info f).bind (ofInfo W G H) = some (fnIR f, fnPl f, fnAr f) := by cases f <;> kernel_rfl
theorem law_ok {C : Handler} (G : Good B) (H : HOk B n C) : lawInfo.bind (ofInfo W G H) = some (ir_law, lawPl, 1) := by kernel_rfl
theorem body_ok {C : Handler} {G : Good B} {H : HOk B n C} {i : Info} {c : IS} {pl : List (Option Nat)} {ar : Nat} (h : ofInfo W G H i = some (c, pl, ar)) : KB B n C W i.names i.body c ∧ pl = plOf i.params i.names ∧ ar = i.params.length := by
  obtain ⟨⟨c', hc⟩, e3, e4⟩ := mapS h
  cases e4
  exact ⟨hc, rfl, rfl⟩
include G
set_option backward.match.sparseCases true in
theorem callStep (H : HOk B n (run W B.ns n)) : HOk B (n + 1) (run W B.ns (n + 1)) := by
  intro f args σ r σ' A s φ vs R ok e S hvs k
  obtain ⟨i, hi, hi2⟩ := bindS (fn_ok W G H f)
  obtain ⟨hbl, hpl, har⟩ := body_ok W hi2
  have e1 : runBody W B.ns (run W B.ns n) (fnIR f) (fnPl f) (fnAr f) args σ = some (r, σ') := e
  clear e
  unfold runBody at e1
  split at e1
  · rename_i hlen
    rw [har] at hlen
    rw [hpl, varsIn_eq hlen] at e1
    have D := G.defs f i hi
    obtain ⟨o, fd, ho, hdata, hbody, hnames, hkind, hco, hgen, hclo, hglob, hbuil, hcd, hbind, hcellb⟩ := D.there
    have ho' := S.base _ _ ho
    have hcd' : s.heap.CodeRec fd.code fd.qualname := hcd.keeps S.base
    have hroom : A.depth < recursionLimit := by have := ok.2.1; unfold recursionLimit; exact (linl [_, _] [.le (.a (.a (.v 0) (.m 4 (.a (.v 1) (.n 1)))) (.n 5)) (.n 990)] (.v 0) (.n 1000) (.refl true) this)
    have hvl : vs.length = i.params.length := hvs.length.trans hlen
    have nd : ((i.params.zip vs).map (·.1)).Nodup := by rw [zip_keys hvl]; exact params_nodup hi
    have hlim : s.heap.NoLimit := by
      obtain ⟨mc, a, b⟩ := G.nolimit
      exact ⟨mc, a.keeps S.base, b⟩
    have hpar : ∀ x ∈ i.params.zip vs, x.1 ∈ i.params := fun x hx => (List.of_mem_zip (a := x.1) (b := x.2) hx).1
    have offL : ∀ p ∈ φ, s.heap.objs.size ≠ p.2 := fun p hp q => by
      obtain ⟨o, ho, zz⟩ := S.mut hp
      rw [← q, get_size_none] at ho; cases ho
    have okA : ∀ env, AOk (A.deeper env) n := fun env => ⟨ok.1, by have := ok.2.1; show A.depth + 1 + 4 * n + 8 ≤ 990; exact (lin [_, _] [.le (.a (.a (.v 0) (.m 4 (.a (.v 1) (.n 1)))) (.n 5)) (.n 990)] (.a (.a (.a (.v 0) (.n 1)) (.m 4 (.v 1))) (.n 8)) (.n 990) (.refl true) this), by have := ok.2.2; show A.units + 3 + 30 * n + 30 ≤ 9000; exact (lin [_, _] [.le (.a (.a (.v 0) (.m 30 (.a (.v 1) (.n 1)))) (.n 10)) (.n 9000)] (.a (.a (.a (.v 0) (.n 3)) (.m 30 (.v 1))) (.n 30)) (.n 9000) (.refl true) this)⟩
    have body : ∀ (env : PySem.Env) (h₀ : Heap) (tk : Nat) (E : Value → Shared → Prop), EnvOk env i.names → env.locals = s.heap.objs.size → (∀ b o, s.heap.get? b = some o → h₀.get? b = some o) → FR B env h₀ φ (initVars i.names i.params args) →
        wpAny (model B.prog B.w) (A.deeper env) (execs i.body env) (fun f s' => R (.ok (.ret (match f with | .ret v => v | _ => .none))) s') E { s with heap := h₀, toks := tk } := fun env h₀ tk E O hL hk F0 => by
      have S0 := S.grow hk
      have g0 := Step.of_grow (φ := φ) hk
      have fin : ∀ (v : Value) (h' : Heap) (tk' : Nat) (φ' : Links), StepX (fun a => a = env.locals) φ φ' h₀ h' → SR B h' φ' σ' → VR B h' φ' v r → R (.ok (.ret v)) { s with heap := h', toks := tk' } := fun v h' tk' φ' x S' hv =>
        k v h' tk' φ' (((g0.toX S0).trans x).toStep fun a q => by rw [q, hL]; exact get_size_none _) S' hv
      split at e1
      · rename_i v ρ' σ2 hev
        cases e1
        refine hbl env O (A.deeper env) _ σ φ { s with heap := h₀, toks := tk } _ _ _ _ E (okA env) hev S0 F0 fun f h' tk' φ' x S' F' y => ?_
        cases f <;> first | exact y.elim | exact fin _ h' tk' φ' x S' y
      · rename_i ρ' σ2 hev
        cases e1
        refine hbl env O (A.deeper env) _ σ φ { s with heap := h₀, toks := tk } _ _ _ _ E (okA env) hev S0 F0 fun f h' tk' φ' x S' F' y => ?_
        cases f <;> first | exact y.elim | exact fin _ h' tk' φ' x S' .none
      · cases e1
    have hdebug : place "__debug__" i.names = none := place_none D.debug
    by_cases hc : ∃ x ∈ i.names, x.2 = .cell
    · refine codeAny_call_cells hroom ho' hdata hlim hcd' hbody (hcellb hc vs hvl) hclo (fun x hx => ?_) (fun s₁ IC => ?_) hco hgen hkind
      · rw [hnames]
        rcases D.params _ (hpar x hx) with h | h
        · exact .inl h
        · exact .inr ⟨h, cellsFrom_some (.inr (mem_of_lookup h))⟩
      · have O : EnvOk (callEnvC fd s.heap.objs.size (B.addr f)) i.names := ⟨hnames, hkind, hglob, hbuil, hdebug⟩
        obtain ⟨h₀, tk₀, rfl⟩ := IC.toInCall.same
        refine body _ h₀ tk₀ _ O rfl IC.toInCall.keep ⟨offL, S.base_none (get_size_none _), _, IC.toInCall.ns, fun x j a h1 h2 => ?_⟩
        rw [O.names] at h1
        obtain ⟨v, hv, hr⟩ := argOf_mem hvs (init_get h1 h2)
        have hr' := hr.step S (Step.of_grow IC.toInCall.keep)
        have kind : ∀ k, i.names.lookup x = some k → (callEnvC fd s.heap.objs.size (B.addr f)).kindOf x = some k := fun k h => by unfold Env.kindOf; rw [O.names]; exact h
        rcases D.params _ (hpar _ hv) with h | h
        · exact .inl ⟨kind _ h, v, bindL_mem (kind _ h) nd hv, hr'⟩
        · have hs := cellsFrom_some (x := x) (n := s.heap.objs.size + 1) (names := fd.scope.names) (acc := []) (.inr (by rw [hnames]; exact mem_of_lookup h))
          obtain ⟨c, hc'⟩ := Option.isSome_iff_exists.mp hs
          have := IC.cell x c hc'
          rw [bindC_mem (kind _ h) nd hv] at this
          exact .inr ⟨kind _ h, c, v, hc', this, hr'⟩
    · have hnc : ∀ x ∈ fd.scope.names, x.2 ≠ .cell := fun x hx q => hc ⟨x, hnames ▸ hx, q⟩
      have hloc : ∀ x ∈ i.params.zip vs, fd.scope.names.lookup x.1 = some .local := fun x hx => by
        rw [hnames]
        rcases D.params _ (hpar x hx) with h | h
        · exact h
        · exact absurd ⟨_, mem_of_lookup h, rfl⟩ hc
      refine codeAny_call_def hroom ho' hdata hlim hcd' hbody (hbind s vs hvl S.base) hnc hloc (fun h₀ hns hk => ?_) hco hgen hkind
      have O : EnvOk (callEnv fd s.heap.objs.size (B.addr f)) i.names := ⟨hnames, hkind, hglob, hbuil, hdebug⟩
      refine body _ h₀ _ _ O rfl hk ⟨offL, S.base_none (get_size_none _), _, hns, fun x j a h1 h2 => ?_⟩
      rw [O.names] at h1
      obtain ⟨v, hv, hr⟩ := argOf_mem hvs (init_get h1 h2)
      refine .inl ⟨?_, v, ?_, hr.step S (Step.of_grow hk)⟩
      · unfold Env.kindOf; exact hloc _ hv
      · refine lookup_mem_nodup ?_ (List.mem_reverse.mpr hv)
        rw [List.map_reverse]; exact List.pairwise_reverse.mpr (List.Pairwise.imp (fun h => Ne.symm h) nd)
  · cases e1
theorem callsOk : ∀ n, HOk B n (run W B.ns n)
  | 0 => fun f args σ r σ' A s φ vs R ok e => nomatch (show (none : Option (AV × Store)) = some (r, σ') from e)
  | n + 1 => callStep G W (callsOk n)
end
end Mine
end
-- H0
section
open PySem PySem.W PyProof.Rows
namespace Mine
noncomputable def addrF : Fn → Addr
  | .children => 21 | .subexpressions => 28 | .expr_reads => 35
  | .mkInit => 49 | .emit => 56 | .here => 63 | .new_slot => 70 | .aim => 77 | .control => 84 | .assignment => 91 | .nonblocking => 98 | .branch => 105 | .selection => 112 | .loop => 119 | .repetition => 126 | .scoped => 133 | .close => 140 | .block => 147 | .parallel => 154 | .waiting => 161 | .looping => 168 | .make => 175
  | .compile_process => 189 | .compile_routine => 197 | .row_targets => 204 | .falls_through => 211 | .scopes_behind => 218 | .target_faults => 225 | .scope_faults => 232 | .thInit => 246
  | .law_bag => 260 | .law_pull => 267 | .law_new => 274 | .law_scope => 281 | .law_plain => 288 | .law_parts => 293 | .law_tree => 300 | .law_acts => 305 | .law_seen => 312 | .law_shape => 317
noncomputable def clsF : Cls → Addr | .maker => 178 | .thread => 249
noncomputable def fdIn (K : Frag) (a : Addr) : Option FuncData := match K.lookup a with
  | some ⟨_, _, .func fd, _⟩ => some fd
  | _ => none
noncomputable def nsIn (K : Frag) (a : Addr) (x : Str) : Option Value := match K.lookup a with
  | some ⟨_, _, .dict es _, _⟩ => nsFind es x
  | _ => none
noncomputable def arityT : Fn → Nat
  | .children | .subexpressions | .expr_reads | .here | .new_slot | .compile_process | .row_targets | .falls_through | .target_faults | .scope_faults | .law_bag | .law_new => 1
  | .law_tree | .law_acts | .close => 3
  | .law_parts | .loop => 4
  | .law_shape => 5
  | .thInit => 6
  | _ => 2
noncomputable def twoIn (K : Frag) (a : Addr) : Option (Str × Str × Addr) := match K.lookup a with
  | some ⟨_, _, .func fd, _⟩ => (match fd.params, fd.defaults with
    | ⟨[], [x, y], none, [], _, none, _⟩, .ref T => (match K.lookup T with
      | some ⟨_, _, .seq its _, _⟩ => (match its.toList with
        | [_] => some (x.arg, y.arg, T)
        | _ => none)
      | _ => none)
    | _, _ => none)
  | _ => none
noncomputable def firstN (f : Fn) (a b c d e g : Value) : List Value := [a, b, c, d, e, g].take (arityT f)
noncomputable abbrev BF := Value → Value → Value → Value → Value → Value → Sem (List (Str × Value))
noncomputable def bindF (f : Fn) (fd : FuncData) : BF := match f with
  | .compile_routine => fun zz zz zz zz zz zz => pure []
  | f => fun a b c d e g => bindArgs fd ⟨firstN f a b c d e g, []⟩
noncomputable def bindF0 (f : Fn) (i : Info) : BF := match f with
  | .compile_routine => fun zz zz zz zz zz zz => pure []
  | f => fun a b c d e g => pure (i.params.zip (firstN f a b c d e g))
noncomputable def fnFact (K : Frag) (f : Fn) := (fdIn K (addrF f)).map fun fd => ((fd.body, fd.scope.names), (fd.scope.kind, fd.scope.isCoroutine, fd.scope.isGenerator, fd.closure, fd.globals, fd.builtins), codeIn K fd.code fd.qualname,
  bindF f fd)
noncomputable def fnFact0 (f : Fn) := (info f).map fun i => ((FuncBody.stmts i.body, i.names), (ScopeKind.function, false, false, ([] : List (Str × Addr)), mainGlobals, builtinsNs), true,
  bindF0 f i)
noncomputable def allB : List BI := [.len, .int, .list, .tuple, .range, .sorted, .reversed]
noncomputable def allC : List Cls := [.maker, .thread]
noncomputable def restFact (K : Frag) : Bool :=
  (allFns.all fun f => keepIn K (.ref (addrF f)) && isFn K (.ref (addrF f))) &&
  (fnGlobals.all fun f => nsIn K 3 (Str.ofString f.title) == some (.ref (addrF f))) &&
  (allC.all fun c => nsIn K 3 (Str.ofString c.title) == some (.ref (clsF c)) && clsOkIn K (clsF c) (addrF c.init) && (List.range 70).all fun n => !isAttr n || attrOkIn K (clsF c) (strAt n)) &&
  (allB.all fun b => nsIn K 3 b.name == none) &&
  (fnMeths.all fun f => plainGet K (clsF .maker) (Str.ofString f.title) && findIn K (.ref (clsF .maker)) (Str.ofString f.title) == some (some (.ref (addrF f))))
noncomputable def facts (K : Frag) := (allFns.map (fnFact K), restFact K, (twoIn K 197).map (fun x => (x.1, x.2.1)))
noncomputable def facts0 := (allFns.map fnFact0, true, some (("routine" : Str), ("scope" : Str)))
noncomputable def fragOf (h : Heap) : Frag := (List.range 330).filterMap fun a => (h.get? a).map fun o => (a, o)
theorem fragOf_in (h : Heap) : (fragOf h).In h := fun a o e => by
  have key : ∀ l : List Addr, List.lookup a (l.filterMap fun a => (h.get? a).map fun o => (a, o)) = some o → h.get? a = some o := by
    intro l
    induction l with
    | nil => intro e; cases e
    | cons b r ih =>
      intro e
      rw [List.filterMap_cons] at e
      cases hb : h.get? b with
      | none => rw [hb] at e; exact ih e
      | some x =>
        rw [hb] at e
        rw [show (Option.map (fun o => (b, o)) (some x)) = some (b, x) from rfl] at e
        dsimp only at e
        rw [List.lookup_cons] at e
        by_cases hab : a = b
        · subst hab
          rw [beq_self_eq_true] at e
          cases e
          exact hb
        · rw [beq_false_of_ne hab] at e
          exact ih e
  exact key _ e
noncomputable def factHook : Hook := ⟨_, fun s => facts (fragOf s.heap), fun zz => facts0, fun zz h => ∃ K : Frag, K.In h ∧ facts K = facts0, fun zz s e => ⟨fragOf s.heap, fragOf_in s.heap, e⟩, fun _ h h' ⟨K, X, e⟩ k => ⟨K, X.keeps k, e⟩⟩
end Mine
end
-- H2
section
open PySem PySem.W PyProof.Rows
namespace Mine
theorem g_boot : ∀ (b : BI), bootBuiltins b.name = some b.value := by
  intro b; cases b <;> kernel_rfl
theorem g_notName : ∀ (b : BI), b.name ≠ "__name__" := by
  intro b; cases b <;> decide
theorem g_methNames : (fnMeths.all fun f => (List.range 70).all fun n => !isAttr n || !seq (strAt n) (Str.ofString f.title)) = true := by decide +kernel
theorem g_arity : ∀ f : Fn, (info f).map (fun i => i.params.length) = some (arityT f) := by
  intro f; cases f <;> kernel_rfl
section
variable {K : Frag} (FK : facts K = facts0)
include FK
theorem f_fn (f : Fn) : fnFact K f = fnFact0 f := List.map_inj_left.mp (congrArg (·.1) FK) f (allFns_all f)
theorem f_rest : restFact K = true := congrArg (·.2.1) FK
theorem f_two : (twoIn K 197).map (fun x => (x.1, x.2.1)) = some (("routine" : Str), ("scope" : Str)) := congrArg (·.2.2) FK
theorem f_all : ((allFns.all fun f => keepIn K (.ref (addrF f)) && isFn K (.ref (addrF f))) = true ∧ (fnGlobals.all fun f => nsIn K 3 (Str.ofString f.title) == some (.ref (addrF f))) = true) ∧
    (allC.all fun c => nsIn K 3 (Str.ofString c.title) == some (.ref (clsF c)) && clsOkIn K (clsF c) (addrF c.init) && (List.range 70).all fun n => !isAttr n || attrOkIn K (clsF c) (strAt n)) = true ∧
    (allB.all fun b => nsIn K 3 b.name == none) = true ∧ (fnMeths.all fun f => plainGet K (clsF .maker) (Str.ofString f.title) && findIn K (.ref (clsF .maker)) (Str.ofString f.title) == some (some (.ref (addrF f)))) = true := by
  obtain ⟨h, h5⟩ := Bool.and_eq_true_iff.mp (f_rest FK)
  obtain ⟨h, h4⟩ := Bool.and_eq_true_iff.mp h
  obtain ⟨h, h3⟩ := Bool.and_eq_true_iff.mp h
  exact ⟨Bool.and_eq_true_iff.mp h, h3, h4, h5⟩
theorem f_keep (f : Fn) : keepIn K (.ref (addrF f)) = true := (Bool.and_eq_true_iff.mp (List.all_eq_true.mp (f_all FK).1.1 f (allFns_all f))).1
theorem f_isFn (f : Fn) : isFn K (.ref (addrF f)) = true := (Bool.and_eq_true_iff.mp (List.all_eq_true.mp (f_all FK).1.1 f (allFns_all f))).2
theorem f_cls (c : Cls) : nsIn K 3 (Str.ofString c.title) = some (.ref (clsF c)) ∧ clsOkIn K (clsF c) (addrF c.init) = true ∧ ((List.range 70).all fun n => !isAttr n || attrOkIn K (clsF c) (strAt n)) = true := by
  obtain ⟨h1, h2⟩ := Bool.and_eq_true_iff.mp (List.all_eq_true.mp (f_all FK).2.1 c (by cases c <;> decide))
  obtain ⟨h1, h3⟩ := Bool.and_eq_true_iff.mp h1
  exact ⟨beq_iff_eq.mp h1, h3, h2⟩
theorem f_globB (b : BI) : nsIn K 3 b.name = none := beq_iff_eq.mp (List.all_eq_true.mp (f_all FK).2.2.1 b (by cases b <;> decide))
end
theorem two_args {α : Type} {f : Arg → Arg → Addr → Option α} {p : Arguments} {d : Value} {r : α} (e : (match p, d with | ⟨[], [x, y], none, [], _, none, _⟩, .ref T => f x y T | _, _ => none) = some r) : ∃ x y kd df T, p = ⟨[], [x, y], none, [], kd, none, df⟩ ∧ d = .ref T ∧ f x y T = some r := by
  obtain ⟨po, pa, pv, pk, kd, pw, df⟩ := p
  cases po with
  | cons _ _ => exact no e
  | nil => cases pa with
    | nil => exact no e
    | cons x pa => cases pa with
      | nil => exact no e
      | cons y pa => cases pa with
        | cons _ _ => exact no e
        | nil => cases pv with
          | some _ => exact no e
          | none => cases pk with
            | cons _ _ => exact no e
            | nil => cases pw with
              | some _ => exact no e
              | none => cases d with
                | ref T => exact ⟨x, y, kd, df, T, rfl, rfl, e⟩
                | _ => exact no e
theorem one_seq {α : Type} {o : Option Obj} {x r : α} (e : (match o with | some ⟨_, _, .seq its _, _⟩ => (match its.toList with | [_] => some x | _ => none) | _ => none) = some r) : ∃ o' v n, o = some o' ∧ o'.data = .seq #[v] n ∧ x = r := by
  cases o with
  | none => exact no e
  | some o =>
    obtain ⟨c, d, data, sl⟩ := o
    cases data with
    | seq its n =>
      obtain ⟨l⟩ := its
      cases l with
      | nil => exact no e
      | cons v l => cases l with
        | cons _ _ => exact no e
        | nil => exact ⟨_, v, n, rfl, rfl, Option.some.inj e⟩
    | _ => exact no e
theorem binds_two {fd : FuncData} {x y : Arg} {kd : List (Option Expr)} {df : List Expr} {T : Addr} {o : Obj} {d : Value} {n : Nat} {s : Shared} {a b : Value} (hp : fd.params = ⟨[], [x, y], none, [], kd, none, df⟩) (hx : x.arg = "routine") (hy : y.arg = "scope") (hd : fd.defaults = .ref T) (ho : s.heap.get? T = some o) (hs : o.data = .seq #[d] n) :
    BindsTo s fd ⟨[a, b], []⟩ [("routine", a), ("scope", b)] := by
  obtain ⟨n1, n2, ps, bd, sc, df, kd, cl, ts, gl, bu, co⟩ := fd
  obtain ⟨x, xa, xp⟩ := x
  obtain ⟨y, ya, yp⟩ := y
  dsimp only at hp hd hx hy
  subst hp hd hx hy
  exact BindsTo.of_defaults rfl ho hs rfl (by kernel_rfl)
theorem bind_routine {K : Frag} (FK : facts K = facts0) {fd : FuncData} (hfd : fdIn K 197 = some fd) {s : Shared} (KX : K.In s.heap) (a b : Value) : BindsTo s fd ⟨[a, b], []⟩ [("routine", a), ("scope", b)] := by
  have h := f_two FK
  obtain ⟨r, hr, hq⟩ := Option.map_eq_some_iff.mp h
  clear h FK
  unfold twoIn at hr
  unfold fdIn at hfd
  cases hK : K.lookup 197 with
  | none => rw [hK] at hr; exact no hr
  | some o =>
    obtain ⟨c, d, data, sl⟩ := o
    rw [hK] at hr hfd
    clear hK
    cases data with
    | func fd' =>
      obtain rfl : fd' = fd := Option.some.inj hfd
      obtain ⟨x, y, kd, df, T, hp, hd, hr⟩ := two_args hr
      obtain ⟨o', v, n2, hT, ho, rfl⟩ := one_seq hr
      obtain ⟨hx, hy⟩ := Prod.mk.inj hq
      exact binds_two hp hx hy hd (KX _ _ hT) ho
    | _ => exact no hr
theorem fd_at {K : Frag} (FK : facts K = facts0) {f : Fn} {i : Info} (hi : info f = some i) : ∃ o fd, K.lookup (addrF f) = some o ∧ o.data = .func fd ∧ fdIn K (addrF f) = some fd ∧ fd.body = .stmts i.body ∧ fd.scope.names = i.names ∧
    (fd.scope.kind, fd.scope.isCoroutine, fd.scope.isGenerator, fd.closure, fd.globals, fd.builtins) = (ScopeKind.function, false, false, [], mainGlobals, builtinsNs) ∧ codeIn K fd.code fd.qualname = true ∧ bindF f fd = bindF0 f i := by
  have h := f_fn FK f
  unfold fnFact fnFact0 at h
  rw [hi] at h
  obtain ⟨fd, h1, h2⟩ := Option.map_eq_some_iff.mp h
  injection h2 with h2 h3
  injection h2 with h2 h4
  injection h3 with h3 h5
  injection h5 with h5 h6
  have h1' := h1
  unfold fdIn at h1
  split at h1
  · rename_i c d fd' sl hK
    cases h1
    exact ⟨_, _, hK, rfl, h1', h2, h4, h3, h5, h6⟩
  · cases h1
theorem firstN_of (f : Fn) : ∀ {vs : List Value}, vs.length = arityT f → ∃ a b c d e g, vs = firstN f a b c d e g := by
  intro vs h
  have hle : arityT f ≤ 6 := by cases f <;> decide
  unfold firstN
  rw [← h] at hle ⊢
  match vs, hle with
  | [], _ => exact ⟨.none, .none, .none, .none, .none, .none, rfl⟩
  | [a], _ => exact ⟨a, .none, .none, .none, .none, .none, rfl⟩
  | [a, b], _ => exact ⟨a, b, .none, .none, .none, .none, rfl⟩
  | [a, b, c], _ => exact ⟨a, b, c, .none, .none, .none, rfl⟩
  | [a, b, c, d], _ => exact ⟨a, b, c, d, .none, .none, rfl⟩
  | [a, b, c, d, e], _ => exact ⟨a, b, c, d, e, .none, rfl⟩
  | [a, b, c, d, e, g], _ => exact ⟨a, b, c, d, e, g, rfl⟩
  | _ :: _ :: _ :: _ :: _ :: _ :: _ :: _, h => exact absurd h (by simp)
theorem bind_of {f : Fn} {fd : FuncData} {i : Info} (hf : f ≠ .compile_routine) (h : bindF f fd = bindF0 f i) {vs : List Value} (hl : vs.length = arityT f) : bindArgs fd ⟨vs, []⟩ = pure (i.params.zip vs) := by
  obtain ⟨a, b, c, d, e, g, rfl⟩ := firstN_of f hl
  have h' := congrFun (congrFun (congrFun (congrFun (congrFun (congrFun h a) b) c) d) e) g
  cases f <;> first | exact absurd rfl hf | exact h'
theorem l2 {α : Type} {vs : List α} (h : vs.length = 2) : ∃ a b, vs = [a, b] := by
  match vs, h with
  | [a, b], _ => exact ⟨a, b, rfl⟩
noncomputable def okNames (i : Info) : Bool := (place "__debug__" i.names).isNone && nodupB (i.names.map (·.1)) && i.params.all fun x => decide (i.names.lookup x = some .local) || decide (i.names.lookup x = some .cell)
theorem g_okNames : (allFns.all fun f => match info f with | some i => okNames i | none => true) = true := by decide +kernel
theorem defOk {B : Base} (FK : facts B.K = facts0) (KX : B.K.In B.hb) (f : Fn) (i : Info) (hi : info f = some i) : DefOk B i (addrF f) := by
  obtain ⟨o, fd, hlk, hd', hfd, hbody, hn', hfl, hc', hbf⟩ := fd_at FK hi
  simp only [Prod.mk.injEq] at hfl
  obtain ⟨f1, f2, f3, f4, f5, f6⟩ := hfl
  have ok := List.all_eq_true.mp g_okNames f (allFns_all f)
  rw [hi] at ok
  unfold okNames at ok
  obtain ⟨ok1, ok2⟩ := Bool.and_eq_true_iff.mp ok
  obtain ⟨ok3, ok4⟩ := Bool.and_eq_true_iff.mp ok1
  have har := g_arity f
  rw [hi] at har
  have har' : i.params.length = arityT f := by simpa using har
  have bind1 : f ≠ .compile_routine → ∀ vs : List Value, vs.length = i.params.length → bindArgs fd ⟨vs, []⟩ = pure (i.params.zip vs) := fun hf vs hl => bind_of hf hbf (hl.trans har')
  refine ⟨⟨o, fd, KX _ _ hlk, hd', hbody, hn', f1, f2, f3, f4, f5, f6, codeRec_of KX hc', fun s vs hl hs => ?_, fun hcell vs hl => ?_⟩, fun x hx => ?_, fun p hp q => ?_, nodupB_ok ok4⟩
  · by_cases hf : f = .compile_routine
    · subst hf
      have hl2 := hl.trans har'
      obtain ⟨a, b, rfl⟩ := l2 hl2
      have hps : i.params = [("routine" : Str), ("scope" : Str)] := by
        have : (info .compile_routine).map (fun i => i.params) = some [("routine" : Str), ("scope" : Str)] := by kernel_rfl
        rw [hi] at this
        simpa using this
      rw [hps]
      exact bind_routine FK hfd (fun a o e => hs _ _ (KX a o e)) a b
    · exact BindsTo.of_eq (bind1 hf vs hl)
  · by_cases hf : f = .compile_routine
    · subst hf
      exfalso
      have : (info .compile_routine).map (fun i => i.names.any fun x => decide (x.2 = .cell)) = some false := by kernel_rfl
      rw [hi] at this
      obtain ⟨x, hx, hx2⟩ := hcell
      have : i.names.any (fun x => decide (x.2 = .cell)) = false := by simpa using this
      rw [List.any_eq_false] at this
      exact this x hx (decide_eq_true hx2)
    · exact bind1 hf vs hl
  · have := List.all_eq_true.mp ok2 x hx
    rcases Bool.or_eq_true_iff.mp this with h | h
    · exact .inl (of_decide_eq_true h)
    · exact .inr (of_decide_eq_true h)
  · obtain ⟨x, k⟩ := p
    dsimp only at q
    subst q
    have : ∃ j, place "__debug__" i.names = some j := by
      have hl : ∃ k', i.names.lookup ("__debug__" : Str) = some k' := by
        have gen : ∀ l : List (Str × NameKind), (("__debug__" : Str), k) ∈ l → ∃ k', l.lookup ("__debug__" : Str) = some k' := by
          intro l
          induction l with
          | nil => intro h; cases h
          | cons y r ih =>
            intro h
            rw [List.lookup_cons]
            cases hb : ("__debug__" : Str) == y.1 with
            | true => exact ⟨_, rfl⟩
            | false =>
              rcases List.mem_cons.mp h with e | h
              · rw [← e] at hb; simp at hb
              · exact ih h
        exact gen _ hp
      obtain ⟨k', hk'⟩ := hl
      exact place_some hk'
    obtain ⟨j, hj⟩ := this
    rw [hj] at ok3
    cases ok3
theorem methIs {m : Str} {f : Fn} (h : findFn m fnMeths = some f) : f ∈ fnMeths ∧ m = Str.ofString f.title := findFn_mem h
theorem attrMem {n : Nat} {x : Str} (h : isAttr n = true) (hx : tab[n]? = some x) : n ∈ List.range 70 ∧ strAt n = x := by
  refine ⟨List.mem_range.mpr ?_, strAt_of hx⟩
  have := (List.getElem?_eq_some_iff.mp hx).1
  rwa [tab_size] at this
theorem good {B : Base} {mg mb : Str → Option Value} (FK : facts B.K = facts0) (hA : B.addr = addrF) (hC : B.clsA = clsF) (KX : B.K.In B.hb) (Tg : B.hb.Ns mainGlobals mg) (Tb : B.hb.Ns builtinsNs mb) (Tn : B.hb.NoLimit)
    (hb : ∀ x : Str, x ≠ "__name__" → mb x = bootBuiltins x) (hs : ∃ o, B.hb.get? sysModules = some o) (hsc : ∃ vs, B.hb.IsList B.sa (List.toArray vs) ∧ IntsAre vs B.ns) (hl : B.ns.length ≤ lim) : Good B where
  kin := KX
  glob := by
    have mgIs : ∀ x, nsIn B.K 3 x = mg x := fun x => by
      obtain ⟨o, es, ep, ho, hd', hk, hm⟩ := Tg
      have hlk : ∃ o, B.K.lookup 3 = some o := by
        have h := (f_cls FK .maker).1
        unfold nsIn at h
        split at h
        · rename_i c d es' n sl hh; exact ⟨_, hh⟩
        · cases h
      obtain ⟨o', hlk⟩ := hlk
      have := KX _ _ hlk
      rw [show (3 : Addr) = mainGlobals from rfl, ho] at this
      cases this
      unfold nsIn
      rw [hlk]
      obtain ⟨c, d, dt, sl⟩ := o
      dsimp only at hd'
      subst hd'
      exact hm x
    refine ⟨mg, mb, Tg, Tb, fun f hf => ?_, fun c => ?_, fun b => ⟨?_, ?_⟩⟩
    · rw [← mgIs, hA]
      exact beq_iff_eq.mp (List.all_eq_true.mp (f_all FK).1.2 f hf)
    · rw [← mgIs, hC]; exact (f_cls FK c).1
    · rw [← mgIs]; exact f_globB FK b
    · rw [hb _ (g_notName b)]; exact g_boot b
  nolimit := Tn
  sys := hs
  script := hsc
  short := hl
  defs := fun f i hi => by rw [hA]; exact defOk FK KX f i hi
  keepF := fun f => by rw [hA]; exact f_keep FK f
  meths := fun m f hf => by
    obtain ⟨h1, h2⟩ := methIs hf
    have := List.all_eq_true.mp (f_all FK).2.2.2 f h1
    obtain ⟨h3, h4⟩ := Bool.and_eq_true_iff.mp this
    rw [hA, hC, h2]
    exact ⟨h3, beq_iff_eq.mp h4, f_isFn FK f⟩
  methNames := fun m f hf n x hn hx => by
    obtain ⟨h1, h2⟩ := methIs hf
    obtain ⟨h3, h4⟩ := attrMem hn hx
    have := List.all_eq_true.mp (List.all_eq_true.mp g_methNames f h1) n h3
    rw [hn, h4] at this
    rw [h2]
    intro e
    rw [seq_iff.mpr e] at this
    cases this
  cls := fun c => by rw [hA, hC]; exact (f_cls FK c).2.1
  attrs := fun c n x hn hx => by
    obtain ⟨h3, h4⟩ := attrMem hn hx
    have := List.all_eq_true.mp (f_cls FK c).2.2 n h3
    rw [hn, h4] at this
    rw [hC]
    simpa using this
end Mine
end
-- H3
section
open PySem PySem.W PySem.Calls PyProof.Rows
namespace Mine
theorem finish {B : Base} {n W : Nat} {σ' : Store} {i : Info} {s : Shared} {h₁ : Heap} {tk : Nat} {env : PySem.Env} {A : Around} {vs : List Value} {Q : Flow → Shared → Prop} {E : Value → Shared → Prop} (G : Good B) (hrun : runLaw W B.ns n = some (.bool true, σ')) (hlaw : lawInfo = some i) (hparams : i.params = [("script" : Str)])
    (O : EnvOk env i.names) (hk : place "script" i.names = some 0 ∧ kindIn "script" i.names = some .local) (hL : env.locals = s.heap.objs.size) (hB : B.hb = s.heap) (hkeep : ∀ b o, s.heap.get? b = some o → h₁.get? b = some o) (hns : h₁.Ns env.locals fun x => [(("script" : Str), Value.ref B.sa)].reverse.lookup x)
    (ok : AOk A n) (hQ : ∀ h' tk', (∀ b o, s.heap.get? b = some o → h'.get? b = some o) → Q (.ret (.bool true)) { s with heap := h', toks := tk' }) :
    wpAny (model B.prog B.w) A (execs i.body env) Q E { s with heap := h₁, toks := tk } := by
  have hco := law_ok (W := W) G (callsOk G W n)
  rw [hlaw] at hco
  obtain ⟨hbl, hpl, har⟩ := body_ok W (show ofInfo W G (callsOk G W n) i = some (ir_law, lawPl, 1) from hco)
  have hlen : [AV.script].length = i.params.length := har
  have hrun : runBody W B.ns (run W B.ns n) ir_law lawPl 1 [.script] [] = some (.bool true, σ') := hrun
  unfold runBody at hrun
  rw [hpl, varsIn_eq hlen] at hrun
  split at hrun
  · have S0 : SR B h₁ [] [] := ⟨fun b o e => hkeep b o (hB ▸ e), by simp, by simp, rfl, fun j p c e => by simp at e⟩
    have nL : B.hb.get? env.locals = none := by rw [hL, hB]; exact get_size_none _
    have F0 : FR B env h₁ [] (initVars i.names i.params [.script]) := by
      refine ⟨by simp, nL, _, hns, fun x j a h1 h2 => ?_⟩
      rw [O.names] at h1
      have := init_get h1 h2
      rw [hparams] at this
      unfold argOf at this
      split at this
      · rename_i hx
        cases this
        have hx' := seq_iff.mp hx
        subst hx'
        refine .inl ⟨kindOf_of O hk.2, .ref B.sa, ?_, .script⟩
        simp
      · unfold argOf at this; cases this
    split at hrun
    · rename_i v ρ' σ2 hev
      cases hrun
      refine hbl env O A _ [] [] { s with heap := h₁, toks := tk } _ _ _ _ E ok hev S0 F0 fun f h' tk' φ' x S' F' y => ?_
      cases f <;> first | exact y.elim | skip
      cases y
      exact hQ h' tk' fun b o e => S'.base b o (hB ▸ e)
    · cases hrun
    · cases hrun
  · cases hrun
theorem g_law : ∃ i, lawInfo = some i ∧ i.params = [("script" : Str)] ∧ (place "script" i.names = some 0 ∧ kindIn "script" i.names = some .local) ∧ place "__debug__" i.names = none := by
  have h1 : lawInfo.map (fun i => i.params) = some [("script" : Str)] := by kernel_rfl
  have h2 : lawInfo.map (fun i => (place "script" i.names, kindIn "script" i.names, place "__debug__" i.names)) = some (some 0, some .local, none) := by kernel_rfl
  obtain ⟨i, hi, e1⟩ := Option.map_eq_some_iff.mp h1
  rw [hi] at h2
  simp only [Option.map_some, Option.some.injEq, Prod.mk.injEq] at h2
  exact ⟨i, hi, e1, ⟨h2.1, h2.2.1⟩, h2.2.2⟩
theorem finish' {p V : Program} {w : World} {n W : Nat} {ns : List Int} {σ' : Store} {body : List Stmt} {s : Shared} {h₁ : Heap} {tk : Nat} {env : PySem.Env} {A : Around} {vs : List Value} {sa : Addr} {Q : Flow → Shared → Prop} {E : Value → Shared → Prop} {loose : List Str} {mean : ExcName → Option Value} {mg mb : Str → Option Value}
    (T : Top V loose mean mg mb s.heap) (hV : importsNone V = true) {K : Frag} (FK : facts K = facts0) (KX : K.In s.heap) (hL : s.heap.IsList sa vs.toArray) (hI : IntsAre vs ns) (hl : ns.length ≤ 63) (hrun : runLaw W ns n = some (.bool true, σ'))
    (hb : lawInfo.map (fun i => i.body) = some body) (hn : lawInfo.map (fun i => i.names) = some env.scope.names) (hkind : env.scope.kind = .function) (hg : env.globals = mainGlobals) (hbu : env.builtins = builtinsNs) (hloc : env.locals = s.heap.objs.size)
    (hkeep : ∀ b o, s.heap.get? b = some o → h₁.get? b = some o) (hns : h₁.Ns env.locals fun x => [(("script" : Str), Value.ref sa)].reverse.lookup x)
    (ok : AOk A n) (hQ : ∀ h' tk', (∀ b o, s.heap.get? b = some o → h'.get? b = some o) → Q (.ret (.bool true)) { s with heap := h', toks := tk' }) :
    wpAny (model p w) A (execs body env) Q E { s with heap := h₁, toks := tk } := by
  obtain ⟨i, hlaw, hparams, hk, hdbg⟩ := g_law
  rw [hlaw] at hb hn
  simp only [Option.map_some, Option.some.injEq] at hb hn
  subst hb
  have hs : ∃ o, s.heap.get? sysModules = some o := by
    obtain ⟨mm, ⟨o, zz, zz, ho, zz⟩, zz⟩ := (T.seer hV).mods
    exact ⟨o, ho⟩
  have Gd : Good ⟨p, w, K, s.heap, addrF, clsF, sa, ns⟩ := good (B := ⟨p, w, K, s.heap, addrF, clsF, sa, ns⟩) FK rfl rfl KX T.g T.b T.nolimit T.builtins hs ⟨vs, hL, hI⟩ (by unfold lim; exact Nat.le_trans hl (by decide))
  exact finish (B := ⟨p, w, K, s.heap, addrF, clsF, sa, ns⟩) (vs := vs) Gd hrun hlaw hparams ⟨hn.symm, hkind, hg, hbu, hdbg⟩ hk hloc rfl hkeep hns ok hQ
end Mine
end
-- F2a
section
open PySem PySem.W PyProof.Rows PySem.Calls
set_option maxHeartbeats 8000000
namespace Mine
noncomputable def takeAt (is : List Nat) (l : List Stmt) : List Stmt := is.filterMap fun i => l[i]?
noncomputable def p0 : Program := PySem.Challenge.pw_sj0049_01
noncomputable def q0 : Program := { p0 with main := { p0.main with body := takeAt [1, 2, 3, 5, 6, 8, 9, 10, 11, 12, 14, 16, 17, 18, 19, 20, 21, 22, 23, 24, 25, 26] p0.main.body } }
theorem left0 : LeftO p0 q0 [Str.ofString "compile_routine"] (fun s => xlAt q0 [] s && recOk (RowW.records (OpenRow.toRowW (PySem.Challenge.rw_sj0049_01.row))) s) factHook.obs factHook.val 3662 := fun w => by kernel_rfl
theorem imp0 : importsNone q0 = true := by decide +kernel
end Mine
end
-- N2
section
namespace Mine
open PySem
noncomputable def W2 {α : Type} (o : Option (α × Store)) (Q : α → Store → Prop) : Prop := ∃ a σ, o = some (a, σ) ∧ Q a σ
noncomputable def W3 (o : Option (Fl × Vars × Store)) (Q : Fl → Vars → Store → Prop) : Prop := ∃ f ρ σ, o = some (f, ρ, σ) ∧ Q f ρ σ
noncomputable def W1 {α : Type} (o : Option α) (Q : α → Prop) : Prop := ∃ a, o = some a ∧ Q a
structure Fm (X : List Nat) (σ σ' : Store) : Prop where
  le : σ.length ≤ σ'.length
  keep : ∀ i, i < σ.length → i ∉ X → σ'[i]? = σ[i]?
structure New (σ : Store) (x : Cell) (q : Nat) (σ' : Store) : Prop where
  fm : Fm [] σ σ'
  le : σ.length ≤ q
  get : σ'[q]? = some x
theorem New.mk0 (σ : Store) (x : Cell) : New σ x σ.length (σ ++ [x]) := ⟨⟨by simp, fun i h zz => List.getElem?_append_left h⟩, Nat.le_refl _, by simp⟩
theorem W2.mono {α : Type} {o : Option (α × Store)} {Q Q' : α → Store → Prop} (h : W2 o Q) (m : ∀ a σ, Q a σ → Q' a σ) : W2 o Q' := let ⟨a, σ, e, q⟩ := h; ⟨a, σ, e, m a σ q⟩
theorem W3.mono {o : Option (Fl × Vars × Store)} {Q Q' : Fl → Vars → Store → Prop} (h : W3 o Q) (m : ∀ f ρ σ, Q f ρ σ → Q' f ρ σ) : W3 o Q' := let ⟨a, b, σ, e, q⟩ := h; ⟨a, b, σ, e, m a b σ q⟩
theorem W1.mk {α : Type} {o : Option α} {Q : α → Prop} {a : α} (e : o = some a) (h : Q a) : W1 o Q := ⟨a, e, h⟩
theorem W2.mk {α : Type} {o : Option (α × Store)} {Q : α → Store → Prop} {a : α} {σ : Store} (e : o = some (a, σ)) (h : Q a σ) : W2 o Q := ⟨a, σ, e, h⟩
theorem W2.bind {α β : Type} {o : Option (α × Store)} {f : α × Store → Option (β × Store)} {Q : β → Store → Prop} (h : W2 o fun a σ => W2 (f (a, σ)) Q) : W2 (o.bind f) Q := by
  obtain ⟨a, σ, e, b, τ, e2, q⟩ := h
  exact ⟨b, τ, by rw [e]; exact e2, q⟩
theorem W2.bind1 {α β : Type} {o : Option α} {f : α → Option (β × Store)} {Q : β → Store → Prop} (h : W1 o fun a => W2 (f a) Q) : W2 (o.bind f) Q := by
  obtain ⟨a, e, b, τ, e2, q⟩ := h
  exact ⟨b, τ, by rw [e]; exact e2, q⟩
theorem W2.map1 {α β : Type} {o : Option α} {f : α → β × Store} {Q : β → Store → Prop} (h : W1 o fun a => Q (f a).1 (f a).2) : W2 (o.map f) Q := by
  obtain ⟨a, e, q⟩ := h
  exact ⟨_, _, by rw [e]; rfl, q⟩
theorem W3.bind {α : Type} {o : Option (α × Store)} {f : α × Store → Option (Fl × Vars × Store)} {Q : Fl → Vars → Store → Prop} (h : W2 o fun a σ => W3 (f (a, σ)) Q) : W3 (o.bind f) Q := by
  obtain ⟨a, σ, e, b, c, τ, e2, q⟩ := h
  exact ⟨b, c, τ, by rw [e]; exact e2, q⟩
theorem W3.bind1 {α : Type} {o : Option α} {f : α → Option (Fl × Vars × Store)} {Q : Fl → Vars → Store → Prop} (h : W1 o fun a => W3 (f a) Q) : W3 (o.bind f) Q := by
  obtain ⟨a, e, b, c, τ, e2, q⟩ := h
  exact ⟨b, c, τ, by rw [e]; exact e2, q⟩
theorem W3.map1 {α : Type} {o : Option α} {f : α → Fl × Vars × Store} {Q : Fl → Vars → Store → Prop} (h : W1 o fun a => Q (f a).1 (f a).2.1 (f a).2.2) : W3 (o.map f) Q := by
  obtain ⟨a, e, q⟩ := h
  exact ⟨_, _, _, by rw [e]; rfl, q⟩
noncomputable def nextQ (k : Vars → Store → Prop) (Q : Fl → Vars → Store → Prop) : Fl → Vars → Store → Prop
  | .next, ρ, σ => k ρ σ
  | f, ρ, σ => Q f ρ σ
noncomputable def contQ (k : Vars → Store → Prop) (Q : Fl → Vars → Store → Prop) : Fl → Vars → Store → Prop
  | .ret v, ρ, σ => Q (.ret v) ρ σ
  | _, ρ, σ => k ρ σ
noncomputable def retQ (Q : AV → Store → Prop) : Fl → Vars → Store → Prop
  | .ret v, _, σ => Q v σ
  | .next, _, σ => Q .none σ
  | .cont, _, _ => False
noncomputable def GetL (σ : Store) (c : Nat) (k : List AV → Prop) : Prop := ∃ l, σ[c]? = some (.list l) ∧ k l
noncomputable def GetD (σ : Store) (c : Nat) (k : List (Int × AV) → Prop) : Prop := ∃ l, σ[c]? = some (.dict l) ∧ k l
noncomputable def GetO (σ : Store) (c : Nat) (k : Cls → List (Nat × AV) → Prop) : Prop := ∃ K l, σ[c]? = some (.obj K l) ∧ k K l
structure NewL (σ : Store) (x : Cell) (k : AV → Store → Prop) : Prop where
  go : ∀ q σ', Fm [] σ σ' → σ.length ≤ q → σ'[q]? = some x → k (.cell q) σ'
noncomputable def wpIf (c : Bool) (A B : Prop) : Prop := match c with
  | true => A
  | false => B
noncomputable def wpIfN (c : Bool) (A B : Prop) : Prop := match c with
  | true => B
  | false => A
noncomputable def notK (c : Bool) (k : Bool → Prop) : Prop := wpIfN c (k true) (k false)
noncomputable def boolK (v : AV) (k : Bool → Prop) : Prop := match v with
  | .bool b => k b
  | _ => False
noncomputable def tupK (v : AV) (k : List AV → Prop) : Prop := match v with
  | .tup l => k l
  | _ => False
noncomputable def oneK (v : AV) (k : AV → Prop) : Prop := match v with
  | .tup l => (match l with
    | [x] => k x
    | _ => False)
  | _ => False
noncomputable def intK (v : AV) (k : Int → Prop) : Prop := match v with
  | .int i => k i
  | _ => False
noncomputable def cellK (v : AV) (k : Nat → Prop) : Prop := match v with
  | .cell i => k i
  | _ => False
noncomputable def nthK : List AV → Nat → (AV → Prop) → Prop
  | [], _, _ => False
  | v :: _, 0, k => k v
  | _ :: r, n + 1, k => nthK r n k
noncomputable def lastK : List AV → (AV → Prop) → Prop
  | [], _ => False
  | v :: r, k => match r with
    | [] => k v
    | a :: r => lastK (a :: r) k
noncomputable def optK (v : Option AV) (k : AV → Prop) : Prop := match v with
  | some v => k v
  | none => False
noncomputable def varK : Vars → Nat → (AV → Prop) → Prop
  | [], _, _ => False
  | v :: _, 0, k => optK v k
  | _ :: r, n + 1, k => varK r n k
noncomputable def setK : Vars → Nat → AV → (Vars → Prop) → Prop
  | [], _, _, k => k []
  | _ :: r, 0, v, k => k (some v :: r)
  | a :: r, n + 1, v, k => setK r n v fun r' => k (a :: r')
noncomputable def lookK (n : Nat) : List (Nat × AV) → (AV → Prop) → Prop
  | [], _ => False
  | (m, v) :: r, k => wpIf (Nat.beq m n) (k v) (lookK n r k)
noncomputable def putK (n : Nat) (v : AV) : List (Nat × AV) → (List (Nat × AV) → Prop) → Prop
  | [], k => k [(n, v)]
  | (m, u) :: r, k => wpIf (Nat.beq m n) (k ((m, v) :: r)) (putK n v r fun r' => k ((m, u) :: r'))
noncomputable def fewK : Nat → List (Nat × AV) → Prop → Prop
  | _, [], P => P
  | 0, _ :: _, _ => False
  | n + 1, (m, _) :: r, P => wpIf (Nat.ble 55 m) (wpIf (Nat.ble m 69) (fewK n r P) False) False
noncomputable def okA (n : Nat) (P : Prop) : Prop := wpIf (Nat.ble 55 n) (wpIf (Nat.ble n 69) P False) (wpIf (Nat.beq n 20) P (wpIf (Nat.beq n 46) P False))
noncomputable def capL : Nat → List AV → Prop → Prop
  | _, [], P => P
  | 0, _ :: _, _ => False
  | n + 1, _ :: r, P => capL n r P
noncomputable def capK : Nat → List (Nat × AV) → Prop → Prop
  | _, [], P => P
  | 0, _ :: _, _ => False
  | n + 1, _ :: r, P => capK n r P
noncomputable def subK (x : AV) (n : Nat) (σ : Store) (k : AV → Prop) : Prop := match x with
  | .tup l => nthK l n k
  | .cell c => GetL σ c fun l => nthK l n k
  | _ => False
noncomputable def lastV (x : AV) (σ : Store) (k : AV → Prop) : Prop := match x with
  | .tup l => lastK l k
  | .cell c => GetL σ c fun l => lastK l k
  | _ => False
noncomputable def eqK (a b : AV) (σ : Store) (k : Bool → Prop) : Prop := match b with
  | .str m => (match a with
    | .str n => wpIf (Nat.ble n 69) (wpIf (Nat.ble m 69) (k (Nat.beq n m)) False) False
    | a => W1 (eqV a (.str m) σ) k)
  | .int j => (match a with
    | .int i => k (decide (i = j))
    | a => W1 (eqV a (.int j) σ) k)
  | b => W1 (eqV a b σ) k
noncomputable def memK (n : Nat) : List AV → (Bool → Prop) → Prop
  | [], k => k false
  | v :: r, k => match v with
    | .str m => wpIf (Nat.ble m 69) (wpIf (Nat.beq n m) (memK n r fun zz => k true) (memK n r k)) False
    | _ => False
noncomputable def inK (a b : AV) (σ : Store) (k : Bool → Prop) : Prop := match b with
  | .tup l => (match a with
    | .str n => wpIf (Nat.ble n 69) (memK n l k) False
    | _ => False)
  | .cell c => intK a fun i => GetD σ c fun l => k (lookI i l).isSome
  | _ => False
noncomputable def nilK (a : AV) (A B : Prop) : Prop := match a with
  | .none => A
  | _ => B
noncomputable def isNoneK (a b : AV) (k : Bool → Prop) : Prop := match b with
  | .none => nilK a (k true) (k false)
  | _ => False
noncomputable def cmpK (op : CmpOp) (a b : AV) (σ : Store) (k : Bool → Prop) : Prop := match op with
  | .Eq => eqK a b σ k
  | .NotEq => eqK a b σ fun c => notK c k
  | .Lt => intK a fun x => intK b fun y => k (decide (x < y))
  | .Gt => intK a fun x => intK b fun y => k (decide (x > y))
  | .GtE => intK a fun x => intK b fun y => k (decide (x ≥ y))
  | .Is => isNoneK a b k
  | .IsNot => isNoneK a b fun c => notK c k
  | .In => inK a b σ k
  | .NotIn => (match b with
    | .tup l => inK a (.tup l) σ fun c => notK c k
    | _ => False)
  | _ => False
noncomputable def binK (op : Operator) (a b : AV) (σ : Store) (Q : AV → Store → Prop) : Prop := match op with
  | .Add => (match a with
    | .int x => intK b fun y => Q (.int (x + y)) σ
    | .tup x => tupK b fun y => x.length + y.length ≤ lim ∧ Q (.tup (x ++ y)) σ
    | .cell i => cellK b fun j => GetL σ i fun x => GetL σ j fun y => x.length + y.length ≤ lim ∧ NewL σ (.list (x ++ y)) Q
    | _ => False)
  | .Sub => intK a fun x => intK b fun y => Q (.int (x - y)) σ
  | op => W2 (binV op a b σ) Q
noncomputable def augK (op : Operator) (a b : AV) (k : AV → Prop) : Prop := match op with
  | .Add => intK a fun x => intK b fun y => k (.int (x + y))
  | .Sub => intK a fun x => intK b fun y => k (.int (x - y))
  | _ => False
noncomputable def truthK (v : AV) (σ : Store) (k : Bool → Prop) : Prop := match v with
  | .bool b => k b
  | .cell c => GetL σ c fun l => (match l with
    | [] => k false
    | _ :: _ => k true)
  | _ => False
noncomputable def biK (ns : List Int) (b : BI) (x : AV) (σ : Store) (Q : AV → Store → Prop) : Prop := match b with
  | .len => (match x with
    | .tup l => Q (.int l.length) σ
    | .cell c => GetL σ c fun l => Q (.int l.length) σ
    | _ => False)
  | .int => intK x fun i => Q (.int i) σ
  | .list => (match x with
    | .tup l => NewL σ (.list l) Q
    | .script => NewL σ (.list (ns.map .int)) Q
    | _ => False)
  | .tuple => cellK x fun c => GetL σ c fun l => Q (.tup l) σ
  | .sorted => W2 (biV ns .sorted x σ) Q
  | _ => False
noncomputable def idxK (o i : AV) (σ : Store) (k : AV → Prop) : Prop := W1 (idxV o i σ) k
inductive AppK (σ1 σ2 : Store) (c : Nat) (b : AV) (k : Store → Prop) : Prop where
  | mk (l0 l : List AV) (h0 : σ1[c]? = some (.list l0)) (h : σ2[c]? = some (.list l)) (hl : l.length < lim) (q : k (σ2.set c (.list (l ++ [b]))))
inductive Meth (C : Handler) (f : Fn) (c : Nat) (bs : List AV) (σ1 σ2 : Store) (Q : AV → Store → Prop) : Prop where
  | mk (l : List (Nat × AV)) (h : σ1[c]? = some (.obj .maker l)) (q : fewK 2 l (W2 (C f (.cell c :: bs) σ2) Q))
noncomputable def iterK (v : AV) (σ : Store) (k : List AV → Option Nat → Prop) : Prop := match v with
  | .tup l => k l none
  | .cell c => GetL σ c fun l => k l (some c)
  | _ => False
noncomputable def okK (o : Option Nat) (it : List AV) (σ : Store) (P : Prop) : Prop := match o with
  | none => P
  | some c => σ[c]? = some (.list it) ∧ P
noncomputable def iterR (k : IK) (v : AV) (σ : Store) (K : List AV → Option Nat → Prop) : Prop := match k with
  | .plain => iterK v σ K
  | .range => oneK v fun v => intK v fun x => x.natAbs ≤ lim ∧ K (rangeI 0 x) none
  | .rev => oneK v fun v => tupK v fun l => l = [] ∧ K [] none
noncomputable def varsO : List (Option Nat) → Vars → (Vars → Prop) → Prop
  | [], _, k => k []
  | o :: r, ρ, k => match o with
    | none => varsO r ρ fun l => k (none :: l)
    | some j => varK ρ j fun v => varsO r ρ fun l => k (some v :: l)
noncomputable def wpComp (te el : Vars → Store → (AV → Store → Prop) → Prop) (i : Nat) (it : List AV) (o : Option Nat) : List AV → List AV → Vars → Store → (List AV → Store → Prop) → Prop
  | [], acc, _, σ, Q => okK o it σ (Q acc σ)
  | v :: r, acc, ρ, σ, Q => okK o it σ (setK ρ i v fun ρ' => te ρ' σ fun b σ1 => boolK b fun c => wpIf c (el ρ' σ1 fun u σ2 => acc.length < lim ∧ wpComp te el i it o r (acc ++ [u]) ρ' σ2 Q) (wpComp te el i it o r acc ρ' σ1 Q))
section
variable (ns : List Int) (C : Handler)
noncomputable def wpE : IE → Vars → Store → (AV → Store → Prop) → Prop
  | .nil, _, σ, Q => Q (.tup []) σ
  | .cons a r, ρ, σ, Q => wpE a ρ σ fun x σ1 => wpE r ρ σ1 fun y σ2 => tupK y fun l => Q (.tup (x :: l)) σ2
  | .none, _, σ, Q => Q .none σ
  | .bool b, _, σ, Q => Q (.bool b) σ
  | .int i, _, σ, Q => Q (.int i) σ
  | .str n, _, σ, Q => Q (.str n) σ
  | .var i, ρ, σ, Q => varK ρ i fun v => Q v σ
  | .bin op a b, ρ, σ, Q => wpE a ρ σ fun x σ1 => wpE b ρ σ1 fun y σ2 => binK op x y σ2 Q
  | .neg a, ρ, σ, Q => wpE a ρ σ fun x σ1 => intK x fun i => Q (.int (-i)) σ1
  | .ife t a b, ρ, σ, Q => wpE t ρ σ fun v σ1 => boolK v fun c => wpIf c (wpE a ρ σ1 Q) (wpE b ρ σ1 Q)
  | .dict, _, σ, Q => NewL σ (.dict []) Q
  | .list es, ρ, σ, Q => wpE es ρ σ fun v σ1 => tupK v fun l => capL 30 l (NewL σ1 (.list l) Q)
  | .tup es, ρ, σ, Q => wpE es ρ σ fun v σ1 => tupK v fun l => capL 30 l (Q (.tup l) σ1)
  | .cmp op a b, ρ, σ, Q => wpE a ρ σ fun x σ1 => wpE b ρ σ1 fun y σ2 => cmpK op x y σ2 fun c => Q (.bool c) σ2
  | .attr o n, ρ, σ, Q => wpE o ρ σ fun x σ1 => okA n (cellK x fun c => GetO σ1 c fun zz l => lookK n l fun v => Q v σ1)
  | .sub o i, ρ, σ, Q => wpE o ρ σ fun x σ1 => wpE i ρ σ1 fun k σ2 => idxK x k σ2 fun v => Q v σ2
  | .subK o n, ρ, σ, Q => wpE o ρ σ fun x σ1 => subK x n σ1 fun v => Q v σ1
  | .last o, ρ, σ, Q => wpE o ρ σ fun x σ1 => lastV x σ1 fun v => Q v σ1
  | .hi o k, ρ, σ, Q => wpE o ρ σ fun x σ1 => W2 (sliceV x Option.none (some k) σ1) Q
  | .lo o k, ρ, σ, Q => wpE o ρ σ fun x σ1 => W2 (sliceV x (some k) Option.none σ1) Q
  | .app o es, ρ, σ, Q => wpE o ρ σ fun a σ1 => cellK a fun c => wpE es ρ σ1 fun v σ2 => oneK v fun b => AppK σ1 σ2 c b fun σ3 => Q .none σ3
  | .pop o es, ρ, σ, Q => wpE o ρ σ fun a σ1 => cellK a fun c => GetL σ1 c fun zz => wpE es ρ σ1 fun v σ2 => tupK v fun t => (match t with
    | [] => GetL σ2 c fun l => ∃ v, l.getLast? = some v ∧ Q v (σ2.set c (.list l.dropLast))
    | [b] => W2 (popAtV (.cell c) b σ2) Q
    | _ => False)
  | .meth f o es, ρ, σ, Q => wpE o ρ σ fun a σ1 => cellK a fun c => wpE es ρ σ1 fun b σ2 => tupK b fun bs => Meth C f c bs σ1 σ2 Q
  | .call f es, ρ, σ, Q => wpE es ρ σ fun b σ1 => tupK b fun bs => W2 (C f bs σ1) Q
  | .new c es, ρ, σ, Q => wpE es ρ σ fun b σ1 => tupK b fun bs => NewL σ1 (.obj c []) fun q σ' => W2 (C c.init (q :: bs) σ') fun r σ2 => isNoneK r .none fun t => wpIf t (Q q σ2) False
  | .bi b es, ρ, σ, Q => wpE es ρ σ fun v σ1 => oneK v fun x => biK ns b x σ1 Q
  | .listR es, ρ, σ, Q => wpE es ρ σ fun b σ1 => tupK b fun bs => (match bs with
    | [x, y] => intK x fun x => intK y fun y => (x.natAbs ≤ 500000 ∧ y.natAbs ≤ 500000) ∧ NewL σ1 (.list (rangeI x y)) Q
    | _ => False)
  | .and2 a b, ρ, σ, Q => wpE a ρ σ fun x σ1 => truthK x σ1 fun t => wpIf t (wpE b ρ σ1 Q) (Q x σ1)
  | .lc k fr i it ifs elt, ρ, σ, Q => wpE it ρ σ fun a σ1 => iterR k a σ1 fun l o => varsO fr ρ fun ρ0 => wpComp (fun ρ' σ' k => wpE ifs ρ' σ' k) (fun ρ' σ' k => wpE elt ρ' σ' k) i l o l [] ρ0 σ1 fun acc σ2 => NewL σ2 (.list acc) Q
  | .tnot t, ρ, σ, Q => wpE t ρ σ fun v σ1 => boolK v fun c => notK c fun d => Q (.bool d) σ1
  | .tand t r, ρ, σ, Q => wpE t ρ σ fun v σ1 => boolK v fun c => wpIf c (wpE r ρ σ1 fun w σ2 => boolK w fun d => Q (.bool d) σ2) (Q (.bool false) σ1)
  | .tor t r, ρ, σ, Q => wpE t ρ σ fun v σ1 => boolK v fun c => wpIf c (Q (.bool true) σ1) (wpE r ρ σ1 fun w σ2 => boolK w fun d => Q (.bool d) σ2)
  | .tval a, ρ, σ, Q => wpE a ρ σ fun x σ1 => truthK x σ1 fun t => Q (.bool t) σ1
end
noncomputable def wpLoop (step : AV → Vars → Store → (Fl → Vars → Store → Prop) → Prop) (it : List AV) (o : Option Nat) : List AV → Vars → Store → (Fl → Vars → Store → Prop) → Prop
  | [], ρ, σ, Q => okK o it σ (Q .next ρ σ)
  | v :: r, ρ, σ, Q => okK o it σ (step v ρ σ (contQ (fun ρ1 σ1 => wpLoop step it o r ρ1 σ1 Q) Q))
noncomputable def wpWhile (test : Vars → Store → (AV → Store → Prop) → Prop) (body : Vars → Store → (Fl → Vars → Store → Prop) → Prop) : Nat → Vars → Store → (Fl → Vars → Store → Prop) → Prop
  | 0, _, _, _ => False
  | n + 1, ρ, σ, Q => test ρ σ fun v σ1 => boolK v fun c => wpIf c (body ρ σ1 (contQ (fun ρ1 σ2 => wpWhile test body n ρ1 σ2 Q) Q)) (Q .next ρ σ1)
noncomputable def tailK (r : IS) (A B : Prop) : Prop := match r with
  | .done => A
  | _ => B
section
variable (W : Nat) (ns : List Int) (C : Handler)
noncomputable def wpB : IS → Vars → Store → (Fl → Vars → Store → Prop) → Prop
  | .done, ρ, σ, Q => Q .next ρ σ
  | .expr e r, ρ, σ, Q => wpE ns C e ρ σ fun zz σ1 => wpB r ρ σ1 Q
  | .ret e, ρ, σ, Q => wpE ns C e ρ σ fun v σ1 => Q (.ret v) ρ σ1
  | .retN, ρ, σ, Q => Q (.ret .none) ρ σ
  | .cont, ρ, σ, Q => Q .cont ρ σ
  | .set i e r, ρ, σ, Q => wpE ns C e ρ σ fun v σ1 => setK ρ i v fun ρ1 => wpB r ρ1 σ1 Q
  | .set2 i j e r, ρ, σ, Q => wpE ns C e ρ σ fun v σ1 => tupK v fun l => (match l with
    | [a, b] => setK ρ i a fun ρ1 => setK ρ1 j b fun ρ2 => wpB r ρ2 σ1 Q
    | _ => False)
  | .setA o n e r, ρ, σ, Q => wpE ns C e ρ σ fun v σ1 => wpE ns C o ρ σ1 fun x σ2 => okA n (cellK x fun c => GetO σ2 c fun K l => capK 30 l (putK n v l fun l' => wpB r ρ (σ2.set c (.obj K l')) Q))
  | .setI o i e r, ρ, σ, Q => wpE ns C e ρ σ fun v σ1 => wpE ns C o ρ σ1 fun x σ2 => wpE ns C i ρ σ2 fun k σ3 => W1 (setIdxV x k v σ3) fun σ4 => wpB r ρ σ4 Q
  | .augA o n op e r, ρ, σ, Q => wpE ns C o ρ σ fun x σ1 => okA n (cellK x fun c => GetO σ1 c fun zz l => lookK n l fun old => wpE ns C e ρ σ1 fun v σ2 => augK op old v fun w => GetO σ2 c fun K l => capK 30 l (putK n w l fun l' => wpB r ρ (σ2.set c (.obj K l')) Q))
  | .augI o i op e r, ρ, σ, Q => wpE ns C o ρ σ fun x σ1 => wpE ns C i ρ σ1 fun k σ2 => idxK x k σ2 fun old => wpE ns C e ρ σ2 fun v σ3 => augK op old v fun w => W1 (setIdxV x k w σ3) fun σ4 => wpB r ρ σ4 Q
  | .iff t b o r, ρ, σ, Q => wpE ns C t ρ σ fun v σ1 => boolK v fun c => tailK r (wpIf c (wpB b ρ σ1 Q) (wpB o ρ σ1 Q)) (wpIf c (wpB b ρ σ1 (nextQ (fun ρ1 σ2 => wpB r ρ1 σ2 Q) Q)) (wpB o ρ σ1 (nextQ (fun ρ1 σ2 => wpB r ρ1 σ2 Q) Q)))
  | .for1 k i it b r, ρ, σ, Q => wpE ns C it ρ σ fun a σ1 => iterR k a σ1 fun l o => wpLoop (fun v ρ' σ' Q' => setK ρ' i v fun ρ1 => wpB b ρ1 σ' Q') l o l ρ σ1 (nextQ (fun ρ1 σ2 => wpB r ρ1 σ2 Q) Q)
  | .for2 i j it b r, ρ, σ, Q => wpE ns C it ρ σ fun a σ1 => iterK a σ1 fun l o => wpLoop (fun v ρ' σ' Q' => tupK v fun l => (match l with
    | [a, b'] => setK ρ' i a fun ρ1 => setK ρ1 j b' fun ρ2 => wpB b ρ2 σ' Q'
    | _ => False)) l o l ρ σ1 (nextQ (fun ρ1 σ2 => wpB r ρ1 σ2 Q) Q)
  | .whil t b r, ρ, σ, Q => wpWhile (fun ρ' σ' Q' => wpE ns C t ρ' σ' Q') (fun ρ' σ' Q' => wpB b ρ' σ' Q') W ρ σ (nextQ (fun ρ1 σ2 => wpB r ρ1 σ2 Q) Q)
end
noncomputable def varsK : List (Option Nat) → List AV → (Vars → Prop) → Prop
  | [], _, k => k []
  | o :: r, as, k => match o with
    | none => varsK r as fun l => k (none :: l)
    | some j => nthK as j fun v => varsK r as fun l => k (some v :: l)
noncomputable def lenK : Nat → List AV → Prop → Prop
  | 0, [], P => P
  | n + 1, _ :: r, P => lenK n r P
  | _, _, _ => False
end Mine
end
-- N3
section
namespace Mine
open PySem
theorem varK_ok : ∀ {ρ : Vars} {i : Nat} {k : AV → Prop}, varK ρ i k → ∃ v, (ρ[i]?).join = some v ∧ k v
  | some v :: _, 0, _, h => ⟨v, rfl, h⟩
  | _ :: r, i + 1, _, h => varK_ok (ρ := r) (i := i) h
theorem intK_ok {a : AV} {k : Int → Prop} (h : intK a k) : ∃ i, a = .int i ∧ k i := by cases a <;> first | exact ⟨_, rfl, h⟩ | exact h.elim
theorem tupK_ok {a : AV} {k : List AV → Prop} (h : tupK a k) : ∃ i, a = .tup i ∧ k i := by cases a <;> first | exact ⟨_, rfl, h⟩ | exact h.elim
theorem cellK_ok {a : AV} {k : Nat → Prop} (h : cellK a k) : ∃ i, a = .cell i ∧ k i := by cases a <;> first | exact ⟨_, rfl, h⟩ | exact h.elim
theorem boolK_ok {a : AV} {k : Bool → Prop} (h : boolK a k) : ∃ i, a = .bool i ∧ k i := by cases a <;> first | exact ⟨_, rfl, h⟩ | exact h.elim
theorem nthK_ok : ∀ {l : List AV} {n : Nat} {k : AV → Prop}, nthK l n k → ∃ v, l[n]? = some v ∧ k v
  | v :: _, 0, _, h => ⟨v, rfl, h⟩
  | _ :: r, i + 1, _, h => nthK_ok (l := r) (n := i) h
theorem lastK_ok : ∀ {l : List AV} {k : AV → Prop}, lastK l k → ∃ v, l[l.length - 1]? = some v ∧ l ≠ [] ∧ k v
  | [v], _, h => ⟨v, rfl, List.cons_ne_nil _ _, h⟩
  | _ :: a :: r, k, h => let ⟨v, e, _, q⟩ := lastK_ok (l := a :: r) (k := k) h; ⟨v, e, List.cons_ne_nil _ _, q⟩
theorem bne {b : Bool} (h : b = false) : ¬ b = true := fun e => Bool.noConfusion (h.symm.trans e)
theorem wpIf_ok {c : Bool} {A B : Prop} (h : wpIf c A B) : (c = true ∧ A) ∨ (c = false ∧ B) := by cases c <;> first | exact .inl ⟨rfl, h⟩ | exact .inr ⟨rfl, h⟩
theorem notK_ok {c : Bool} {k : Bool → Prop} (h : notK c k) : k (!c) := by cases c <;> exact h
theorem lookK_ok {n : Nat} : ∀ {l : List (Nat × AV)} {k : AV → Prop}, lookK n l k → ∃ v, lookN n l = some v ∧ k v
  | (m, v) :: r, k, h => by
    rcases wpIf_ok h with ⟨e, q⟩ | ⟨e, q⟩
    · exact ⟨v, if_pos (Nat.eq_of_beq_eq_true e), q⟩
    · obtain ⟨u, e2, q⟩ := lookK_ok (l := r) q
      exact ⟨u, (if_neg (Nat.ne_of_beq_eq_false e)).trans e2, q⟩
theorem putK_ok {n : Nat} {v : AV} : ∀ {l : List (Nat × AV)} {k : List (Nat × AV) → Prop}, putK n v l k → k (putN n v l)
  | [], _, h => h
  | (m, u) :: r, k, h => by
    rcases wpIf_ok h with ⟨e, q⟩ | ⟨e, q⟩
    · exact (congrArg k (if_pos (Nat.eq_of_beq_eq_true e) : putN n v ((m, u) :: r) = _)).mpr q
    · exact (congrArg k (if_neg (Nat.ne_of_beq_eq_false e) : putN n v ((m, u) :: r) = _)).mpr (putK_ok (l := r) q)
theorem isAttr_of {m : Nat} (h : 55 ≤ m) (h2 : m ≤ 69) : isAttr m = true := by
  have : ∀ j < 15, isAttr (55 + j) = true := by decide
  have h3 := this (m - 55) (by omega)
  rwa [show 55 + (m - 55) = m by omega] at h3
theorem okA_ok {n : Nat} {P : Prop} (h : okA n P) : isAttr n = true ∧ P := by
  rcases wpIf_ok h with ⟨e, h⟩ | ⟨zz, h⟩
  · rcases wpIf_ok h with ⟨e2, h⟩ | ⟨zz, h⟩
    · exact ⟨isAttr_of (Nat.le_of_ble_eq_true e) (Nat.le_of_ble_eq_true e2), h⟩
    · exact h.elim
  · rcases wpIf_ok h with ⟨e, h⟩ | ⟨zz, h⟩
    · exact ⟨by rw [Nat.eq_of_beq_eq_true e]; decide, h⟩
    · rcases wpIf_ok h with ⟨e, h⟩ | ⟨zz, h⟩
      · exact ⟨by rw [Nat.eq_of_beq_eq_true e]; decide, h⟩
      · exact h.elim
theorem capL_ok : ∀ {n : Nat} {l : List AV} {P : Prop}, capL n l P → l.length ≤ n ∧ P
  | 0, [], _, h => ⟨Nat.le_refl _, h⟩
  | _ + 1, [], _, h => ⟨Nat.zero_le _, h⟩
  | n + 1, _ :: r, _, h => let ⟨a, b⟩ := capL_ok (n := n) (l := r) h; ⟨Nat.succ_le_succ a, b⟩
theorem lim30 {l : List AV} (h : l.length ≤ 30) : l.length ≤ lim := Nat.le_trans h (by decide)
theorem capK_ok : ∀ {n : Nat} {l : List (Nat × AV)} {P : Prop}, capK n l P → l.length ≤ n ∧ P
  | 0, [], _, h => ⟨Nat.le_refl _, h⟩
  | _ + 1, [], _, h => ⟨Nat.zero_le _, h⟩
  | n + 1, _ :: r, _, h => let ⟨a, b⟩ := capK_ok (n := n) (l := r) h; ⟨Nat.succ_le_succ a, b⟩
theorem fewK_ok : ∀ {n : Nat} {l : List (Nat × AV)} {P : Prop}, fewK n l P → l.all (fun q => isAttr q.1) = true ∧ P
  | 0, [], _, h => ⟨rfl, h⟩
  | _ + 1, [], _, h => ⟨rfl, h⟩
  | n + 1, (m, _) :: r, P, h => by
    rcases wpIf_ok h with ⟨e, q⟩ | ⟨zz, q⟩
    · rcases wpIf_ok q with ⟨e2, q⟩ | ⟨zz, q⟩
      · obtain ⟨a, b⟩ := fewK_ok (n := n) (l := r) q
        exact ⟨(Bool.and_eq_true_iff.mpr ⟨isAttr_of (Nat.le_of_ble_eq_true e) (Nat.le_of_ble_eq_true e2), a⟩), b⟩
      · exact q.elim
    · exact q.elim
section
variable {σ : Store} {c : Nat} {l : List AV}
theorem listAt_of (h : σ[c]? = some (.list l)) : listAt σ c = some l := by unfold listAt; rw [h]
theorem dictAt_of {l : List (Int × AV)} (h : σ[c]? = some (.dict l)) : dictAt σ c = some l := by unfold dictAt; rw [h]
theorem objAt_of {l : List (Nat × AV)} {K : Cls} (h : σ[c]? = some (.obj K l)) : objAt σ c = some (K, l) := by unfold objAt; rw [h]
theorem cellE {k : Int} (h : σ[c]? = some (.list l)) : idxV (.cell c) (.int k) σ = seqAt l k := by
  show (match σ[c]? with | some (.list l) => _ | some (.dict l) => _ | _ => none) = _
  rw [h]
theorem seq_at {l : List AV} {n : Nat} {v : AV} (h : l[n]? = some v) : seqAt l (Int.ofNat n) = some v := h
theorem seq_last {l : List AV} {v : AV} (h : l[l.length - 1]? = some v) (hn : l ≠ []) : seqAt l (-1) = some v := by
  have hl : 1 ≤ l.length := Nat.pos_of_ne_zero fun e => hn (List.length_eq_zero_iff.mp e)
  unfold seqAt
  rw [if_neg (by decide), if_pos (by omega), show (-1 + (l.length : Int)).toNat = l.length - 1 by omega]
  exact h
theorem subK_ok {x : AV} {n : Nat} {k : AV → Prop} (h : subK x n σ k) : W1 (idxV x (.int (Int.ofNat n)) σ) k := by
  cases x <;> first
    | (exact nthK_ok h)
    | (obtain ⟨l, e, h⟩ := h; obtain ⟨v, e2, h⟩ := nthK_ok h; exact ⟨v, (cellE e).trans e2, h⟩)
    | exact h.elim
theorem lastV_ok {x : AV} {k : AV → Prop} (h : lastV x σ k) : W1 (idxV x (.int (-1)) σ) k := by
  cases x <;> first
    | (obtain ⟨l, e, h⟩ := h; obtain ⟨v, e2, h0, h⟩ := lastK_ok h; exact ⟨v, (cellE e).trans (seq_last e2 h0), h⟩)
    | (obtain ⟨v, e2, h0, h⟩ := lastK_ok h; exact ⟨v, seq_last e2 h0, h⟩)
    | exact h.elim
theorem eqV_plain {a b : AV} (ha : AV.plain 8 a = true) (hb : AV.plain 8 b = true) : eqV a b σ = some (decide (a = b)) := by
  have e : eqV a b σ = if AV.plain 8 a && AV.plain 8 b then some (decide (a = b)) else none := by
    cases a <;> first | rfl | exact nomatch (show false = true from ha)
  rw [e, ha, hb]; rfl
theorem pl_str {m : Nat} (e : Nat.ble m 69 = true) : AV.plain 8 (.str m) = true := decide_eq_true (Nat.lt_succ_of_le (Nat.le_of_ble_eq_true e))
theorem dec_str {n m : Nat} : decide (AV.str n = AV.str m) = Nat.beq n m := by
  cases hb : Nat.beq n m with
  | false => exact decide_eq_false fun e => Nat.ne_of_beq_eq_false hb (AV.str.inj e)
  | true => exact decide_eq_true (congrArg _ (Nat.eq_of_beq_eq_true hb))
theorem dec_int {i j : Int} : decide (AV.int i = AV.int j) = decide (i = j) := decide_eq_decide.mpr ⟨AV.int.inj, congrArg _⟩
theorem eqK_ok {a b : AV} {k : Bool → Prop} (h : eqK a b σ k) : W1 (eqV a b σ) k := by
  cases b <;> first
    | exact h
    | (cases a <;> first
      | exact h
      | exact ⟨_, eqV_plain rfl rfl, (congrArg k dec_int).mpr h⟩
      | (rcases wpIf_ok h with ⟨e, h⟩ | ⟨zz, h⟩
         · rcases wpIf_ok h with ⟨e2, h⟩ | ⟨zz, h⟩
           · exact ⟨_, eqV_plain (pl_str e) (pl_str e2), (congrArg k dec_str).mpr h⟩
           · exact h.elim
         · exact h.elim))
theorem memK_ok {n : Nat} (hn : AV.plain 8 (.str n) = true) : ∀ {l : List AV} {k : Bool → Prop}, memK n l k → (l.all (AV.plain 8) && AV.plain 8 (.str n)) = true ∧ k (decide (AV.str n ∈ l))
  | [], _, h => ⟨hn, h⟩
  | .str m :: r, k, h => by
    rcases wpIf_ok h with ⟨e, h⟩ | ⟨zz, h⟩
    · have pm : AV.plain 8 (.str m) = true := pl_str e
      have al : ∀ {r : List AV}, (r.all (AV.plain 8) && AV.plain 8 (.str n)) = true → ((AV.str m :: r).all (AV.plain 8) && AV.plain 8 (.str n)) = true := fun h => by
        rw [List.all_cons, pm, Bool.true_and]; exact h
      rcases wpIf_ok h with ⟨e, h⟩ | ⟨e, h⟩
      · obtain ⟨a, b⟩ := memK_ok hn (l := r) h
        exact ⟨al a, (congrArg k (decide_eq_true (by rw [Nat.eq_of_beq_eq_true e]; exact List.mem_cons_self))).mpr b⟩
      · obtain ⟨a, b⟩ := memK_ok hn (l := r) h
        refine ⟨al a, (congrArg k (decide_eq_decide.mpr ⟨fun h => ?_, List.mem_cons_of_mem _⟩)).mpr b⟩
        rcases List.mem_cons.mp h with h | h
        · exact absurd (AV.str.inj h) (Nat.ne_of_beq_eq_false e)
        · exact h
    · exact h.elim
theorem inK_ok {a b : AV} {k : Bool → Prop} (h : inK a b σ k) : W1 (cmpV .In a b σ) k := by
  cases b <;> first
    | exact h.elim
    | (cases a <;> first
      | exact h.elim
      | (rcases wpIf_ok h with ⟨e, h⟩ | ⟨zz, h⟩
         · have := memK_ok (pl_str e) h
           exact ⟨_, if_pos this.1, this.2⟩
         · exact h.elim))
    | (obtain ⟨i, rfl, l, e, h⟩ := intK_ok h
       exact ⟨_, congrArg (Option.map _) (dictAt_of e), h⟩)
theorem isNoneK_ok {a b : AV} {k : Bool → Prop} (h : isNoneK a b k) : b = .none ∧ k (decide (a = .none)) := by
  cases b <;> first
    | exact h.elim
    | (cases a <;> exact ⟨rfl, h⟩)
theorem notIn_ok {a b : AV} {k : Bool → Prop} (h : cmpK .NotIn a b σ k) : W1 (cmpV .NotIn a b σ) k := by
  cases b <;> first
    | exact h.elim
    | (cases a <;> first
      | exact h.elim
      | (rcases wpIf_ok h with ⟨e, h⟩ | ⟨zz, h⟩
         · have := memK_ok (pl_str e) h
           exact ⟨_, if_pos this.1, notK_ok this.2⟩
         · exact h.elim))
theorem cmpK_ok {op : CmpOp} {a b : AV} {k : Bool → Prop} (h : cmpK op a b σ k) : W1 (cmpV op a b σ) k := by
  cases op
  case Eq => exact eqK_ok (k := k) h
  case NotEq => obtain ⟨c, e, h2⟩ := eqK_ok (k := fun c => notK c k) h; exact ⟨!c, congrArg (Option.map _) e, notK_ok h2⟩
  case In => exact inK_ok h
  case NotIn => exact notIn_ok h
  case Is => obtain ⟨rfl, h2⟩ := isNoneK_ok (k := k) h; exact ⟨_, rfl, h2⟩
  case IsNot => obtain ⟨rfl, h2⟩ := isNoneK_ok (k := fun c => notK c k) h; exact ⟨_, congrArg some (decide_not), notK_ok h2⟩
  all_goals first
    | exact h.elim
    | (obtain ⟨i, rfl, h⟩ := intK_ok h; obtain ⟨j, rfl, h⟩ := intK_ok h; exact ⟨_, rfl, h⟩)
theorem newL_ok {x : Cell} {Q : AV → Store → Prop} (h : NewL σ x Q) : Q (newCell x σ).1 (newCell x σ).2 := h.go _ _ (New.mk0 σ x).fm (New.mk0 σ x).le (New.mk0 σ x).get
theorem binK_ok {op : Operator} {a b : AV} {Q : AV → Store → Prop} (h : binK op a b σ Q) : W2 (binV op a b σ) Q := by
  cases op <;> first
    | exact h
    | (obtain ⟨i, rfl, h⟩ := intK_ok h; obtain ⟨j, rfl, h⟩ := intK_ok h; exact ⟨_, _, rfl, h⟩)
    | (cases a <;> first
      | exact h.elim
      | (obtain ⟨j, rfl, h⟩ := intK_ok h; exact ⟨_, _, rfl, h⟩)
      | (obtain ⟨j, rfl, h0, h⟩ := tupK_ok h; exact ⟨_, _, if_pos h0, h⟩)
      | (obtain ⟨j, rfl, x, e, y, e2, h0, h⟩ := cellK_ok h
         refine ⟨_, _, ?_, newL_ok h⟩
         show ((listAt σ _).bind _) = _
         rw [listAt_of e, Option.bind_some, listAt_of e2, Option.bind_some, if_pos h0]))
theorem augK_ok {op : Operator} {a b : AV} {k : AV → Prop} (h : augK op a b k) : W1 (augOp op a b) k := by
  cases op <;> first
    | exact h.elim
    | (obtain ⟨i, rfl, h⟩ := intK_ok h; obtain ⟨j, rfl, h⟩ := intK_ok h; exact ⟨_, rfl, h⟩)
theorem truthK_ok {v : AV} {k : Bool → Prop} (h : truthK v σ k) : W1 (truthyV v σ) k := by
  cases v <;> first
    | exact ⟨_, rfl, h⟩
    | exact h.elim
    | (obtain ⟨l, e, h⟩ := h
       refine ⟨_, congrArg (Option.map _) (listAt_of e), ?_⟩
       cases l <;> exact h)
theorem biK_ok {ns : List Int} {b : BI} {x : AV} {Q : AV → Store → Prop} (h : biK ns b x σ Q) : W2 (biV ns b x σ) Q := by
  cases b <;> first
    | exact h.elim
    | exact h
    | (obtain ⟨i, rfl, h⟩ := intK_ok h; exact ⟨_, _, rfl, h⟩)
    | (obtain ⟨i, rfl, l, e, h⟩ := cellK_ok h; exact ⟨_, _, congrArg (Option.map _) (listAt_of e), h⟩)
    | (cases x <;> first
      | exact h.elim
      | exact ⟨_, _, rfl, h⟩
      | exact ⟨_, _, rfl, newL_ok h⟩
      | (obtain ⟨l, e, h⟩ := h; exact ⟨_, _, congrArg (Option.map _) (listAt_of e), h⟩))
end
theorem W2.eq {α : Type} {x y : Option (α × Store)} {Q : α → Store → Prop} (e : x = y) (h : W2 y Q) : W2 x Q := e ▸ h
theorem islist_of {σ : Store} {c : Nat} {l : List AV} (h : σ[c]? = some (.list l)) : isListV (.cell c) σ = true := congrArg Option.isSome (listAt_of h)
theorem setK_ok : ∀ {ρ : Vars} {i : Nat} {v : AV} {k : Vars → Prop}, setK ρ i v k → k (ρ.set i (some v))
  | [], _, _, _, h => h
  | _ :: _, 0, _, _, h => h
  | _ :: r, i + 1, v, _, h => setK_ok (ρ := r) (i := i) (v := v) h
theorem okK_ok {o : Option Nat} {it : List AV} {σ : Store} {P : Prop} (h : okK o it σ P) : Iter.ok (it, o) σ = true ∧ P := by
  cases o with
  | none => exact ⟨rfl, h⟩
  | some c =>
    refine ⟨?_, h.2⟩
    show (match σ[c]? with | some (.list l) => AV.eqbs l it | _ => false) = true
    rw [h.1]; exact (AV.eqbs_iff _ _).mpr rfl
theorem iterK_ok {v : AV} {σ : Store} {k : List AV → Option Nat → Prop} (h : iterK v σ k) : W1 (iterV v σ) fun it => k it.1 it.2 := by
  cases v <;> first
    | exact h.elim
    | exact ⟨_, rfl, h⟩
    | (obtain ⟨l, e, h⟩ := h; exact ⟨_, congrArg (Option.map _) (listAt_of e), h⟩)
theorem oneK_ok {v : AV} {k : AV → Prop} (h : oneK v k) : ∃ x, v = .tup [x] ∧ k x := by
  match v, h with
  | .tup [x], h => exact ⟨x, rfl, h⟩
theorem if_wp {α : Type} {c : Bool} {x y : Option (α × Store)} {Q : α → Store → Prop} (h : wpIf c (W2 x Q) (W2 y Q)) : W2 (if c = true then x else y) Q := by cases c <;> exact h
theorem if_wp' {c : Bool} {A B A' B' : Prop} (h : wpIf c A B) (ha : A → A') (hb : B → B') : wpIf c A' B' := by cases c <;> first | exact ha h | exact hb h
theorem W2.asL {f : Run} {ρ : Vars} {σ : Store} {QL : List AV → Store → Prop} (h : W2 (f ρ σ) fun y σ' => tupK y fun l => QL l σ') : W2 (asL f ρ σ) QL := by
  obtain ⟨y, σ', e, h⟩ := h
  obtain ⟨l, rfl, h⟩ := tupK_ok h
  exact ⟨l, σ', congrArg (Option.bind · _) e, h⟩
theorem W2.asB {f : Run} {ρ : Vars} {σ : Store} {QB : Bool → Store → Prop} (h : W2 (f ρ σ) fun y σ' => boolK y fun l => QB l σ') : W2 (asB f ρ σ) QB := by
  obtain ⟨y, σ', e, h⟩ := h
  obtain ⟨l, rfl, h⟩ := boolK_ok h
  exact ⟨l, σ', congrArg (Option.bind · _) e, h⟩
theorem W2.ofB {f : RunB} {ρ : Vars} {σ : Store} {Q : AV → Store → Prop} (h : W2 (f ρ σ) fun b σ' => Q (.bool b) σ') : W2 (ofB f ρ σ) Q := by
  obtain ⟨y, σ', e, h⟩ := h
  exact ⟨_, σ', congrArg (Option.map _) e, h⟩
theorem varsO_ok {ρ : Vars} : ∀ {fr : List (Option Nat)} {k : Vars → Prop}, varsO fr ρ k → W1 (varsOf fr ρ) k
  | [], _, h => ⟨_, rfl, h⟩
  | none :: r, k, h => by
    obtain ⟨l, e, h⟩ := varsO_ok (fr := r) h
    exact ⟨_, congrArg (Option.map _) e, h⟩
  | some j :: r, k, h => by
    obtain ⟨v, e1, h⟩ := varK_ok h
    obtain ⟨l, e, h⟩ := varsO_ok (fr := r) h
    exact ⟨_, (congrArg (Option.bind · _) e1).trans (congrArg (Option.map _) e), h⟩
theorem iter_ok {k : IK} {f : Run} {ρ : Vars} {σ : Store} {QI : Iter → Store → Prop} (h : W2 (f ρ σ) fun a σ1 => iterR k a σ1 fun l o => QI (l, o) σ1) : W2 (itK k f ρ σ) QI := by
  cases k with
  | plain => exact W2.bind (h.mono fun a σ1 h => W2.map1 (iterK_ok (k := fun l o => QI (l, o) σ1) h))
  | range =>
    obtain ⟨a, σ1, e, h⟩ := h
    obtain ⟨v, rfl, h⟩ := oneK_ok h
    obtain ⟨x, rfl, h0, h⟩ := intK_ok h
    exact ⟨_, _, (congrArg (Option.bind · _) (congrArg (Option.bind · _) e : asL f ρ σ = some ([AV.int x], σ1))).trans (if_pos h0), h⟩
  | rev =>
    obtain ⟨a, σ1, e, h⟩ := h
    obtain ⟨v, rfl, h⟩ := oneK_ok h
    obtain ⟨x, rfl, e0, h2⟩ := tupK_ok h
    cases e0
    exact ⟨_, _, congrArg (Option.bind · _) (congrArg (Option.bind · _) e : asL f ρ σ = some ([AV.tup []], σ1)), h2⟩
theorem comp_ok {te el : Vars → Store → (AV → Store → Prop) → Prop} {i : Nat} {te' : Vars → Store → Option (Bool × Store)} {el' : Vars → Store → Option (AV × Store)} (ht : ∀ ρ σ (K : Bool → Store → Prop), (te ρ σ fun b σ1 => boolK b fun c => K c σ1) → W2 (te' ρ σ) K) (he : ∀ ρ σ Q, el ρ σ Q → W2 (el' ρ σ) Q) {it : List AV} {o : Option Nat} :
    ∀ {l acc : List AV} {ρ : Vars} {σ : Store} {Q : List AV → Store → Prop}, wpComp te el i it o l acc ρ σ Q → W2 (compV (setAt i) te' el' (it, o) l acc ρ σ) Q
  | [], _, _, _, _, h => ⟨_, _, if_pos (okK_ok h).1, (okK_ok h).2⟩
  | v :: r, acc, ρ, σ, Q, h => by
    obtain ⟨h0, h⟩ := okK_ok h
    obtain ⟨c, σ1, e1, h⟩ := ht _ _ _ (setK_ok h)
    refine W2.eq (if_pos h0) (W2.eq ((congrArg (Option.bind · _) e1).trans (Option.bind_some _ _)) ?_)
    cases c with
    | true =>
      obtain ⟨u, σ2, e2, hl, h⟩ := he _ _ _ h
      exact W2.eq (if_pos rfl) (W2.eq ((congrArg (Option.bind · _) e2).trans (Option.bind_some _ _)) (W2.eq (if_pos hl) (comp_ok ht he h)))
    | false => exact W2.eq (if_neg Bool.false_ne_true) (comp_ok ht he h)
section
variable {ns : List Int} {C : Handler}
theorem attr_at {c n : Nat} {σ : Store} {k : AV → Prop} (hi : isAttr n = true) (h : GetO σ c fun zz l => lookK n l k) : W1 (attrV (.cell c) n σ) k := by
  obtain ⟨K, l, e, h⟩ := h
  obtain ⟨v, e2, h⟩ := lookK_ok h
  exact ⟨v, (congrArg (Option.bind · _) (objAt_of e)).trans ((if_pos hi).trans e2), h⟩
theorem setAttr_ok {c n : Nat} {v : AV} {σ : Store} {k : Store → Prop} (hi : isAttr n = true) (h : GetO σ c fun K l => capK 30 l (putK n v l fun l' => k (σ.set c (.obj K l')))) : W1 (setAttrV (.cell c) n v σ) k := by
  obtain ⟨K, l, e, h⟩ := h
  obtain ⟨hl, h⟩ := capK_ok h
  refine ⟨_, (congrArg (Option.bind · _) (objAt_of e)).trans (if_pos ?_), putK_ok h⟩
  rw [hi]
  exact decide_eq_true (Nat.lt_of_le_of_lt hl (by decide))
theorem meth_ok {f : Fn} {c : Nat} {bs : List AV} {σ1 σ2 : Store} {Q : AV → Store → Prop} (h : Meth C f c bs σ1 σ2 Q) : isMakerV (.cell c) σ1 = true ∧ W2 (C f (.cell c :: bs) σ2) Q := by
  obtain ⟨l, e, h⟩ := h
  obtain ⟨hl, h⟩ := fewK_ok h
  refine ⟨?_, h⟩
  show (match objAt σ1 c with | some p => decide (p.1 = .maker) && p.2.all (fun q => isAttr q.1) | none => false) = true
  rw [objAt_of e]; exact hl
theorem wpE_ok : ∀ (c : IE) {ρ : Vars} {σ : Store} {Q : AV → Store → Prop}, wpE ns C c ρ σ Q → W2 (runE ns C c ρ σ) Q
  | .nil, _, _, _, h => ⟨_, _, rfl, h⟩
  | .cons a r, _, _, _, h => W2.bind ((wpE_ok a h).mono fun x zz h => W2.bind (W2.asL ((wpE_ok r h).mono fun zz zz h => by obtain ⟨l, rfl, h⟩ := tupK_ok h; exact ⟨_, _, rfl, h⟩)))
  | .none, _, _, _, h => ⟨_, _, rfl, h⟩
  | .bool _, _, _, _, h => ⟨_, _, rfl, h⟩
  | .int _, _, _, _, h => ⟨_, _, rfl, h⟩
  | .str _, _, _, _, h => ⟨_, _, rfl, h⟩
  | .var i, _, _, _, h => let ⟨_, e, h⟩ := varK_ok h; ⟨_, _, congrArg (Option.map _) e, h⟩
  | .bin op a b, _, _, _, h => W2.bind ((wpE_ok a h).mono fun zz zz h => W2.bind ((wpE_ok b h).mono fun zz zz h => binK_ok h))
  | .neg a, _, _, _, h => W2.bind ((wpE_ok a h).mono fun zz zz h => by obtain ⟨i, rfl, h⟩ := intK_ok h; exact ⟨_, _, rfl, h⟩)
  | .ife t a b, _, _, _, h => W2.bind (W2.asB ((wpE_ok t h).mono fun zz zz h => by obtain ⟨i, rfl, h⟩ := boolK_ok h; exact if_wp (if_wp' h (wpE_ok a) (wpE_ok b))))
  | .dict, _, _, _, h => ⟨_, _, rfl, newL_ok h⟩
  | .list es, _, _, _, h => W2.bind (W2.asL ((wpE_ok es h).mono fun zz zz h => by obtain ⟨l, rfl, h⟩ := tupK_ok h; exact ⟨_, _, if_pos (lim30 (capL_ok h).1), newL_ok (capL_ok h).2⟩))
  | .tup es, _, _, _, h => W2.bind (W2.asL ((wpE_ok es h).mono fun zz zz h => by obtain ⟨l, rfl, h⟩ := tupK_ok h; exact ⟨_, _, if_pos (lim30 (capL_ok h).1), (capL_ok h).2⟩))
  | .cmp op a b, _, _, _, h => W2.bind ((wpE_ok a h).mono fun zz zz h => W2.bind ((wpE_ok b h).mono fun zz zz h => W2.map1 (cmpK_ok h)))
  | .attr o n, _, _, _, h => W2.bind ((wpE_ok o h).mono fun zz zz h => by
      obtain ⟨hi, h⟩ := okA_ok h
      obtain ⟨c, rfl, h⟩ := cellK_ok h
      exact W2.map1 (attr_at hi h))
  | .sub o i, _, _, _, h => W2.bind ((wpE_ok o h).mono fun zz zz h => W2.bind ((wpE_ok i h).mono fun zz zz h => W2.map1 h))
  | .subK o n, _, _, _, h => W2.bind ((wpE_ok o h).mono fun zz zz h => W2.map1 (subK_ok h))
  | .last o, _, _, _, h => W2.bind ((wpE_ok o h).mono fun zz zz h => W2.map1 (lastV_ok h))
  | .hi o k, _, _, _, h => W2.bind (wpE_ok o h)
  | .lo o k, _, _, _, h => W2.bind (wpE_ok o h)
  | .app o es, _, _, _, h => W2.bind ((wpE_ok o h).mono fun zz zz h => by
      obtain ⟨c, rfl, h⟩ := cellK_ok h
      obtain ⟨b, σ', e', h⟩ := wpE_ok es h
      obtain ⟨w, rfl, l0, l, e0, e, hl, h⟩ := oneK_ok h
      refine W2.eq (if_pos (islist_of e0)) (W2.bind (W2.asL ⟨_, _, e', ?_⟩))
      exact ⟨_, _, congrArg (Option.map _) ((congrArg (Option.bind · _) (listAt_of e)).trans (if_pos hl) : appendV (.cell c) w σ' = _), h⟩)
  | .pop o es, _, _, _, h => W2.bind ((wpE_ok o h).mono fun zz zz h => by
      obtain ⟨c, rfl, l0, e0, h⟩ := cellK_ok h
      refine W2.eq (if_pos (islist_of e0)) (W2.bind (W2.asL ((wpE_ok es h).mono fun b σ' h => ?_)))
      obtain ⟨l, rfl, h⟩ := tupK_ok h
      match l, h with
      | [], h =>
        obtain ⟨l, e, v, e2, h⟩ := h
        exact ⟨_, _, (congrArg (Option.bind · _) (listAt_of e)).trans (congrArg (Option.map _) e2), h⟩
      | [_], h => exact h)
  | .meth f o es, _, _, _, h => W2.bind ((wpE_ok o h).mono fun zz zz h => by
      obtain ⟨c, rfl, h⟩ := cellK_ok h
      obtain ⟨b, σ', e', h⟩ := wpE_ok es h
      obtain ⟨l, rfl, h⟩ := tupK_ok h
      exact W2.eq (if_pos (meth_ok h).1) (W2.bind (W2.asL ⟨_, _, e', (meth_ok h).2⟩)))
  | .call f es, _, _, _, h => W2.bind (W2.asL (wpE_ok es h))
  | .new c es, _, _, _, h => W2.bind (W2.asL ((wpE_ok es h).mono fun zz σ1 h => by
      obtain ⟨l, rfl, h⟩ := tupK_ok h
      refine W2.bind ((newL_ok (Q := fun q σ' => W2 (C c.init (q :: l) σ') fun r σ2 => isNoneK r .none fun t => wpIf t (_) False) h : W2 (C c.init _ _) _).mono fun r σ2 h => ?_)
      rcases wpIf_ok (isNoneK_ok h).2 with ⟨e, h⟩ | ⟨zz, h⟩
      · exact ⟨_, _, if_pos (of_decide_eq_true e), h⟩
      · exact h.elim))
  | .bi b es, _, _, _, h => W2.bind (W2.asL ((wpE_ok es h).mono fun zz zz h => by obtain ⟨w, rfl, h⟩ := oneK_ok h; exact biK_ok h))
  | .listR es, _, _, _, h => W2.bind (W2.asL ((wpE_ok es h).mono fun zz zz h => by
      obtain ⟨l, rfl, h⟩ := tupK_ok h
      match l, h with
      | [x, y], h =>
        obtain ⟨i, rfl, h⟩ := intK_ok h
        obtain ⟨j, rfl, h0, h⟩ := intK_ok h
        exact ⟨_, _, if_pos h0, newL_ok h⟩))
  | .and2 a b, _, _, _, h => W2.bind ((wpE_ok a h).mono fun zz zz h => by
      obtain ⟨t, e, h⟩ := truthK_ok h
      refine W2.eq ((congrArg (Option.bind · _) e).trans (Option.bind_some _ _)) ?_
      cases t with
      | true => exact W2.eq (if_neg dAt) (wpE_ok b h)
      | false => exact ⟨_, _, if_pos dAf, h⟩)
  | .lc k fr i it ifs elt, _, _, _, h => by
      obtain ⟨q, σ1, e1, h⟩ := iter_ok (k := k) (QI := fun q σ1 => varsO fr _ fun ρ0 => wpComp (fun ρ' σ' k => wpE ns C ifs ρ' σ' k) (fun ρ' σ' k => wpE ns C elt ρ' σ' k) i q.1 q.2 q.1 [] ρ0 σ1 fun acc σ2 => NewL σ2 (.list acc) _) (wpE_ok it h)
      obtain ⟨ρ0, e0, h⟩ := varsO_ok h
      obtain ⟨acc, σ2, e2, h⟩ := comp_ok (te' := asB (runE ns C ifs)) (el' := runE ns C elt) (fun ρ σ K h => W2.asB (wpE_ok ifs h)) (fun ρ σ Q h => wpE_ok elt h) h
      exact ⟨_, _, (congrArg (Option.bind · _) e0).trans ((congrArg (Option.bind · _) e1).trans (congrArg (Option.map _) e2)), newL_ok h⟩
  | .tnot t, _, _, _, h => W2.ofB (by
      obtain ⟨b, σ', e, h⟩ := W2.asB (wpE_ok t h)
      exact ⟨_, _, congrArg (Option.map _) e, notK_ok h⟩)
  | .tand t r, _, _, Q, h => W2.ofB (W2.bind ((W2.asB (wpE_ok t h)).mono fun t σ h => by
      cases t with
      | true => exact W2.eq (if_neg dAt) (W2.asB (wpE_ok r h))
      | false => exact ⟨_, _, if_pos dAf, h⟩))
  | .tor t r, _, _, _, h => W2.ofB (W2.bind ((W2.asB (wpE_ok t h)).mono fun t σ h => by
      cases t with
      | true => exact ⟨_, _, if_pos dOt, h⟩
      | false => exact W2.eq (if_neg dOf) (W2.asB (wpE_ok r h))))
  | .tval a, _, _, _, h => W2.ofB (W2.bind ((wpE_ok a h).mono fun zz zz h => W2.map1 (truthK_ok h)))
end
end Mine
end
-- N4
section
namespace Mine
open PySem
theorem nextQ_mono {k k' : Vars → Store → Prop} {Q : Fl → Vars → Store → Prop} (h : ∀ ρ σ, k ρ σ → k' ρ σ) : ∀ f ρ σ, nextQ k Q f ρ σ → nextQ k' Q f ρ σ
  | .next, ρ, σ, q => h ρ σ q
  | .cont, _, _, q => q
  | .ret _, _, _, q => q
theorem contQ_mono {k k' : Vars → Store → Prop} {Q : Fl → Vars → Store → Prop} (h : ∀ ρ σ, k ρ σ → k' ρ σ) : ∀ f ρ σ, contQ k Q f ρ σ → contQ k' Q f ρ σ
  | .next, ρ, σ, q => h ρ σ q
  | .cont, ρ, σ, q => h ρ σ q
  | .ret _, _, _, q => q
theorem W3.eq {x y : Option (Fl × Vars × Store)} {Q : Fl → Vars → Store → Prop} (e : x = y) (h : W3 y Q) : W3 x Q := e ▸ h
theorem loop_ok {st : AV → Vars → Store → (Fl → Vars → Store → Prop) → Prop} {st' : AV → Vars → Store → Option (Fl × Vars × Store)} (hs : ∀ v ρ σ Q, st v ρ σ Q → W3 (st' v ρ σ) Q) {it : List AV} {o : Option Nat} : ∀ {l : List AV} {ρ : Vars} {σ : Store} {Q : Fl → Vars → Store → Prop}, wpLoop st it o l ρ σ Q → W3 (loopV st' (it, o) l ρ σ) Q
  | [], _, _, _, h => ⟨_, _, _, if_pos (okK_ok h).1, (okK_ok h).2⟩
  | v :: r, ρ, σ, Q, h => by
    obtain ⟨h0, h⟩ := okK_ok h
    obtain ⟨f, ρ1, σ1, e, q⟩ := (hs _ _ _ _ h).mono (contQ_mono fun ρ σ h => loop_ok hs (l := r) h)
    refine W3.eq (if_pos h0) (W3.eq (congrArg (fun (x : Option (Fl × Vars × Store)) => (match x with | some (.ret u, ρ', σ') => some (.ret u, ρ', σ') | some (_, ρ', σ') => loopV st' (it, o) r ρ' σ' | none => none : Option (Fl × Vars × Store))) e) ?_)
    cases f with
    | next => exact q
    | cont => exact q
    | ret u => exact ⟨_, _, _, rfl, q⟩
theorem while_ok {te : Vars → Store → (AV → Store → Prop) → Prop} {bo : Vars → Store → (Fl → Vars → Store → Prop) → Prop} {te' : Vars → Store → Option (Bool × Store)} {bo' : Vars → Store → Option (Fl × Vars × Store)}
    (ht : ∀ ρ σ (K : Bool → Store → Prop), (te ρ σ fun v σ1 => boolK v fun c => K c σ1) → W2 (te' ρ σ) K) (hb : ∀ ρ σ Q, bo ρ σ Q → W3 (bo' ρ σ) Q) : ∀ {n : Nat} {ρ : Vars} {σ : Store} {Q : Fl → Vars → Store → Prop}, wpWhile te bo n ρ σ Q → W3 (whileV te' bo' n ρ σ) Q
  | n + 1, ρ, σ, Q, h => by
    obtain ⟨c, σ1, e, h⟩ := ht _ _ _ h
    rcases wpIf_ok (A := bo ρ σ1 (contQ (fun ρ1 σ2 => wpWhile te bo n ρ1 σ2 Q) Q)) (B := Q .next ρ σ1) h with ⟨rfl, h⟩ | ⟨rfl, h⟩
    · obtain ⟨f, ρ2, σ2, e2, q⟩ := (hb _ _ _ h).mono (contQ_mono fun ρ σ h => while_ok ht hb (n := n) h)
      unfold whileV
      rw [e]
      dsimp only
      rw [e2]
      cases f with
      | next => exact q
      | cont => exact q
      | ret u => exact ⟨_, _, _, rfl, q⟩
    · exact ⟨_, _, _, by unfold whileV; rw [e], h⟩
section
variable {W : Nat} {ns : List Int} {C : Handler}
theorem W3.one {f : Fl} {ρ : Vars} {σ : Store} {Q : Fl → Vars → Store → Prop} (q : Q f ρ σ) : W3 (some (f, ρ, σ)) Q := ⟨_, _, _, rfl, q⟩
theorem W3.then {x : Option (Fl × Vars × Store)} {g : RunS} {Q : Fl → Vars → Store → Prop} (h : W3 x (nextQ (fun ρ1 σ1 => W3 (g ρ1 σ1) Q) Q)) : W3 (thenB x g) Q := by
  obtain ⟨f, ρ1, σ1, e, q⟩ := h
  refine W3.eq ((congrArg (Option.bind · _) e).trans (Option.bind_some _ _)) ?_
  cases f with
  | next => exact q
  | cont => exact ⟨_, _, _, rfl, q⟩
  | ret v => exact ⟨_, _, _, rfl, q⟩
theorem W3.asg {x : Option (Vars × Store)} {Q : Fl → Vars → Store → Prop} {ρ : Vars} {σ : Store} (e : x = some (ρ, σ)) (q : Q .next ρ σ) : W3 (asg x) Q := ⟨_, _, _, congrArg (Option.map _) e, q⟩
theorem set2_ok {v : AV} {ρ : Vars} {i j : Nat} {K : Vars → Prop} (h : tupK v fun l => (match l with
    | [a, b] => setK ρ i a fun ρ1 => setK ρ1 j b fun ρ2 => K ρ2
    | _ => False)) : ∃ a b, v = .tup [a, b] ∧ K ((ρ.set i (some a)).set j (some b)) := by
  obtain ⟨l, rfl, h⟩ := tupK_ok h
  match l, h with
  | [a, b], h => exact ⟨a, b, rfl, setK_ok (setK_ok h)⟩
theorem done_Q {ρ : Vars} {σ : Store} {Q : Fl → Vars → Store → Prop} {f : Fl} : nextQ (fun ρ1 σ2 => wpB W ns C .done ρ1 σ2 Q) Q f ρ σ ↔ Q f ρ σ := by cases f <;> exact Iff.rfl
theorem tailK_ok {cr : IS} {c : Bool} {A B : IS} {ρ : Vars} {σ : Store} {Q : Fl → Vars → Store → Prop} (h : tailK cr (wpIf c (wpB W ns C A ρ σ Q) (wpB W ns C B ρ σ Q)) (wpIf c (wpB W ns C A ρ σ (nextQ (fun ρ1 σ2 => wpB W ns C cr ρ1 σ2 Q) Q)) (wpB W ns C B ρ σ (nextQ (fun ρ1 σ2 => wpB W ns C cr ρ1 σ2 Q) Q)))) :
    ∃ Q', wpIf c (wpB W ns C A ρ σ Q') (wpB W ns C B ρ σ Q') ∧ ∀ f ρ σ, Q' f ρ σ → nextQ (fun ρ1 σ2 => wpB W ns C cr ρ1 σ2 Q) Q f ρ σ := by
  cases cr <;> first
    | exact ⟨_, h, fun zz zz zz h => h⟩
    | exact ⟨_, h, fun zz zz zz h => done_Q.mpr h⟩
theorem wpB_ok : ∀ (c : IS) {ρ : Vars} {σ : Store} {Q : Fl → Vars → Store → Prop}, wpB W ns C c ρ σ Q → W3 (runB W ns C c ρ σ) Q
  | .done, _, _, _, h => ⟨_, _, _, rfl, h⟩
  | .expr e r, _, _, _, h => let ⟨_, _, e1, h⟩ := wpE_ok e h; W3.then ⟨_, _, _, congrArg (Option.map _) e1, wpB_ok r h⟩
  | .ret e, _, _, _, h => let ⟨_, _, e1, h⟩ := wpE_ok e h; ⟨_, _, _, congrArg (Option.map _) e1, h⟩
  | .retN, _, _, _, h => ⟨_, _, _, rfl, h⟩
  | .cont, _, _, _, h => ⟨_, _, _, rfl, h⟩
  | .set i e r, _, _, _, h => W3.then (W3.bind ((wpE_ok e h).mono fun zz zz h => W3.asg rfl (wpB_ok r (setK_ok h))))
  | .set2 i j e r, _, _, _, h => W3.then (W3.bind ((wpE_ok e h).mono fun zz zz h => by
      obtain ⟨a, b, rfl, h2⟩ := set2_ok h
      exact W3.asg rfl (wpB_ok r h2)))
  | .setA o n e r, _, _, Q, h => W3.then (W3.bind ((wpE_ok e h).mono fun zz zz h => by
      obtain ⟨x, σ2, e2, h⟩ := wpE_ok o h
      obtain ⟨hi, h⟩ := okA_ok h
      obtain ⟨c, rfl, h⟩ := cellK_ok h
      obtain ⟨σ3, e3, h⟩ := setAttr_ok (k := fun σ3 => wpB W ns C r _ σ3 Q) hi h
      exact W3.asg ((congrArg (Option.bind · _) e2).trans (congrArg (Option.map _) e3)) (wpB_ok r h)))
  | .setI o i e r, _, _, _, h => W3.then (W3.bind ((wpE_ok e h).mono fun zz zz h => by
      obtain ⟨x, σ2, e2, h⟩ := wpE_ok o h
      obtain ⟨k, σ3, e3, h⟩ := wpE_ok i h
      obtain ⟨σ4, e4, h⟩ := h
      exact W3.asg ((congrArg (Option.bind · _) e2).trans ((congrArg (Option.bind · _) e3).trans (congrArg (Option.map _) e4))) (wpB_ok r h)))
  | .augA o n op e r, _, _, Q, h => W3.then (W3.bind ((wpE_ok o h).mono fun zz zz h => by
      obtain ⟨hi, h⟩ := okA_ok h
      obtain ⟨c, rfl, K, l, e0, h⟩ := cellK_ok h
      obtain ⟨old, e1, h⟩ := attr_at (k := _) hi ⟨K, l, e0, h⟩
      refine W3.bind1 ⟨old, e1, W3.bind ((wpE_ok e h).mono fun zz σ h => ?_)⟩
      obtain ⟨w, e2, h⟩ := augK_ok h
      obtain ⟨σ3, e3, h⟩ := setAttr_ok (k := fun σ3 => wpB W ns C r _ σ3 Q) hi h
      exact W3.bind1 ⟨w, e2, W3.map1 ⟨_, e3, wpB_ok r h⟩⟩))
  | .augI o i op e r, _, _, _, h => W3.then (W3.bind ((wpE_ok o h).mono fun zz zz h => W3.bind ((wpE_ok i h).mono fun zz zz h => by
      obtain ⟨old, e1, h⟩ := h
      refine W3.bind1 ⟨old, e1, W3.bind ((wpE_ok e h).mono fun zz σ h => ?_)⟩
      obtain ⟨w, e2, h⟩ := augK_ok h
      obtain ⟨σ3, e3, h⟩ := h
      exact W3.bind1 ⟨w, e2, W3.map1 ⟨_, e3, wpB_ok r h⟩⟩)))
  | .iff t b o r, _, _, _, h => W3.then (W3.bind (W2.asB ((wpE_ok t h).mono fun zz zz h => by
      obtain ⟨c, rfl, h⟩ := boolK_ok h
      show W3 (if c = true then _ else _) _
      obtain ⟨Q', h, hq⟩ := tailK_ok h
      cases c with
      | true => exact W3.eq (if_pos rfl) ((wpB_ok b h).mono fun f ρ σ h => nextQ_mono (fun zz zz h => wpB_ok r h) _ _ _ (hq f ρ σ h))
      | false => exact W3.eq (if_neg Bool.false_ne_true) ((wpB_ok o h).mono fun f ρ σ h => nextQ_mono (fun zz zz h => wpB_ok r h) _ _ _ (hq f ρ σ h)))))
  | .for1 k i it b r, _, _, Q, h => W3.then (W3.bind ((iter_ok (QI := fun q σ1 => wpLoop (fun v ρ' σ' Q' => setK ρ' i v fun ρ1 => wpB W ns C b ρ1 σ' Q') q.1 q.2 q.1 _ σ1 (nextQ (fun ρ1 σ2 => wpB W ns C r ρ1 σ2 Q) Q)) (wpE_ok it h)).mono fun zz zz h =>
      (loop_ok (st' := fun v ρ' σ' => (setAt i v ρ').bind fun ρ'' => runB W ns C b ρ'' σ') (fun v ρ σ Q h => wpB_ok b (setK_ok h)) h).mono (nextQ_mono fun zz zz h => wpB_ok r h)))
  | .for2 i j it b r, _, _, Q, h => W3.then (W3.bind ((iter_ok (k := .plain) (QI := fun q σ1 => wpLoop (fun v ρ' σ' Q' => tupK v fun l => (match l with
    | [a, b'] => setK ρ' i a fun ρ1 => setK ρ1 j b' fun ρ2 => wpB W ns C b ρ2 σ' Q'
    | _ => False)) q.1 q.2 q.1 _ σ1 (nextQ (fun ρ1 σ2 => wpB W ns C r ρ1 σ2 Q) Q)) (wpE_ok it h)).mono fun zz zz h =>
      (loop_ok (st' := fun v ρ' σ' => (set2At i j v ρ').bind fun ρ'' => runB W ns C b ρ'' σ') (fun v ρ σ Q h => by
        obtain ⟨x, y, rfl, h2⟩ := set2_ok h
        exact wpB_ok b h2) h).mono (nextQ_mono fun zz zz h => wpB_ok r h)))
  | .whil t b r, _, _, _, h => W3.then ((while_ok (te' := asB (runE ns C t)) (bo' := runB W ns C b) (fun ρ σ K h => W2.asB (wpE_ok t h)) (fun ρ σ Q h => wpB_ok b h) h).mono (nextQ_mono fun zz zz h => wpB_ok r h))
end
end Mine
end
-- N6
section
namespace Mine
open PySem
theorem varsK_ok {as : List AV} : ∀ {pl : List (Option Nat)} {k : Vars → Prop}, varsK pl as k → k (varsIn pl as)
  | [], _, h => h
  | none :: r, k, h => varsK_ok (pl := r) (k := fun l => k (none :: l)) h
  | some j :: r, k, h => by
    obtain ⟨v, e, h⟩ := nthK_ok h
    have := varsK_ok (pl := r) (k := fun l => k (some v :: l)) h
    show k (as[j]? :: varsIn r as)
    rw [e]; exact this
theorem lenK_ok : ∀ {n : Nat} {l : List AV} {P : Prop}, lenK n l P → l.length = n ∧ P
  | 0, [], _, h => ⟨rfl, h⟩
  | n + 1, _ :: r, _, h => let ⟨a, b⟩ := lenK_ok (n := n) (l := r) h; ⟨congrArg (· + 1) a, b⟩
theorem enter_body {W : Nat} {ns : List Int} {C : Handler} {c : IS} {pl : List (Option Nat)} {ar : Nat} {args : List AV} {σ : Store} {Q : AV → Store → Prop} (h : lenK ar args (varsK pl args fun ρ => wpB W ns C c ρ σ (retQ Q))) : W2 (runBody W ns C c pl ar args σ) Q := by
  obtain ⟨hl, h⟩ := lenK_ok h
  obtain ⟨fl, ρ1, σ1, e, q⟩ := wpB_ok c (varsK_ok h)
  refine W2.eq ((if_pos hl).trans (congrArg (fun (x : Option (Fl × Vars × Store)) => (match x with
    | some (.ret v, _, σ') => some (v, σ')
    | some (.next, _, σ') => some (.none, σ')
    | _ => none : Option (AV × Store))) e)) ?_
  cases fl with
  | next => exact ⟨_, _, rfl, q⟩
  | cont => exact q.elim
  | ret v => exact ⟨_, _, rfl, q⟩
theorem enter {W n : Nat} {ns : List Int} {f : Fn} {args : List AV} {σ : Store} {Q : AV → Store → Prop} (h : lenK (fnAr f) args (varsK (fnPl f) args fun ρ => wpB W ns (run W ns n) (fnIR f) ρ σ (retQ Q))) : W2 (run W ns (n + 1) f args σ) Q := enter_body h
theorem enterLaw {W n : Nat} {ns : List Int} {Q : AV → Store → Prop} (h : varsK lawPl [.script] fun ρ => wpB W ns (run W ns n) ir_law ρ [] (retQ Q)) : W2 (runLaw W ns n) Q := enter_body h
end Mine
end
namespace Mine
-- P3
open PySem
section
variable {σ : Store} {c : Nat} {l : List AV} {k : Int} {v a b : AV} {i j : Int} {n m : Nat}
theorem bindO {α β : Type} {o : Option α} {f : α → Option β} {x : α} {y : Option β} (e : o = some x) (h : f x = y) : o.bind f = y := by rw [e]; exact h
theorem mapO {α β : Type} {o : Option α} {f : α → β} {x : α} (e : o = some x) : o.map f = some (f x) := by rw [e]; rfl
theorem if_mono {t : Bool} {A B : Prop} (h : wpIf t A False) (f : A → B) : wpIf t B False := by cases t <;> first | exact f h | exact h
theorem gL {K : List AV → Prop} (h : σ[c]? = some (.list l)) (q : K l) : GetL σ c K := ⟨l, h, q⟩
theorem gD {l : List (Int × AV)} {K : List (Int × AV) → Prop} (h : σ[c]? = some (.dict l)) (q : K l) : GetD σ c K := ⟨l, h, q⟩
theorem gO {C : Cls} {l : List (Nat × AV)} {K : Cls → List (Nat × AV) → Prop} (h : σ[c]? = some (.obj C l)) (q : K C l) : GetO σ c K := ⟨C, l, h, q⟩
theorem newL {x : Cell} {K : AV → Store → Prop} (h : ∀ q σ', Fm [] σ σ' → σ.length ≤ q → σ'[q]? = some x → K (.cell q) σ') : NewL σ x K := ⟨h⟩
theorem app1 {K : Store → Prop} (h : σ[c]? = some (.list l)) (hl : l.length < lim) (q : K (σ.set c (.list (l ++ [b])))) : AppK σ σ c b K := ⟨l, l, h, h, hl, q⟩
theorem app2 {K : Store → Prop} {σ' : Store} {l0 : List AV} (h0 : σ[c]? = some (.list l0)) (h : σ'[c]? = some (.list l)) (hl : l.length < lim) (q : K (σ'.set c (.list (l ++ [b])))) : AppK σ σ' c b K := ⟨l0, l, h0, h, hl, q⟩
noncomputable abbrev mkObj (k : Int) (c : Nat) : Cell := .obj .maker [(56, .int k), (57, .cell c)]
theorem methE {W n : Nat} {ns : List Int} {f : Fn} {m : Nat} {bs : List AV} {Q : AV → Store → Prop} (hm : σ[m]? = some (mkObj k c)) (h : lenK (fnAr f) (.cell m :: bs) (varsK (fnPl f) (.cell m :: bs) fun ρ => wpB W ns (run W ns n) (fnIR f) ρ σ (retQ Q))) : Meth (run W ns (n + 1)) f m bs σ σ Q := ⟨_, hm, enter h⟩
theorem fewK_mono {P P' : Prop} (f : P → P') : ∀ {n : Nat} {l : List (Nat × AV)}, fewK n l P → fewK n l P'
  | 0, [], h => f h
  | _ + 1, [], h => f h
  | n + 1, (m, _) :: r, h => if_mono h fun h => if_mono h fun h => fewK_mono f (n := n) (l := r) h
theorem Meth.mono {C : Handler} {f : Fn} {m : Nat} {bs : List AV} {σ' : Store} {Q Q' : AV → Store → Prop} (h : Meth C f m bs σ σ' Q) (hq : ∀ v τ, Q v τ → Q' v τ) : Meth C f m bs σ σ' Q' := by
  obtain ⟨l, e, q⟩ := h
  exact ⟨l, e, fewK_mono (fun q => W2.mono q hq) q⟩
theorem meth2 {C : Handler} {f : Fn} {m : Nat} {bs : List AV} {σ' : Store} {Q : AV → Store → Prop} (hm : σ[m]? = some (mkObj k c)) (h : Meth C f m bs σ' σ' Q) : Meth C f m bs σ σ' Q := by
  obtain ⟨l, e, q⟩ := h
  exact ⟨_, hm, (fewK_ok q).2⟩
theorem if_y {t : Bool} {A B : Prop} (e : t = true) (h : A) : wpIf t A B := by subst e; exact h
theorem if_z {t : Bool} {A B : Prop} (e : t = false) (h : B) : wpIf t A B := by subst e; exact h
theorem if_b {t : Bool} {A B : Prop} (h : t = true → A) (h2 : t = false → B) : wpIf t A B := by cases t <;> first | exact h rfl | exact h2 rfl
theorem if_d {p A B : Prop} [d : Decidable p] (h : p → A) (h2 : ¬ p → B) : wpIf (decide p) A B := if_b (fun e => h (of_decide_eq_true e)) (fun e => h2 (of_decide_eq_false e))
theorem nk_b {t : Bool} {A B : Prop} (h : t = false → A) (h2 : t = true → B) : wpIfN t A B := by cases t <;> first | exact h rfl | exact h2 rfl
theorem nk_d {p A B : Prop} [d : Decidable p] (h : ¬ p → A) (h2 : p → B) : wpIfN (decide p) A B := nk_b (fun e => h (of_decide_eq_false e)) (fun e => h2 (of_decide_eq_true e))
theorem nk_y {t : Bool} {A B : Prop} (e : t = true) (h : B) : wpIfN t A B := by subst e; exact h
theorem nk_z {t : Bool} {A B : Prop} (e : t = false) (h : A) : wpIfN t A B := by subst e; exact h
theorem nil_f {A B : Prop} (h : a ≠ .none) (q : B) : nilK a A B := by cases a <;> first | exact q | exact absurd rfl h
theorem ble69 (h : n < 70) : Nat.ble n 69 = true := Nat.ble_eq_true_of_le (Nat.le_of_lt_succ h)
theorem beqF (h : n ≠ m) : Nat.beq n m = false := by
  cases hb : Nat.beq n m with
  | false => rfl
  | true => exact absurd (Nat.eq_of_beq_eq_true hb) h
noncomputable def isS : AV → Bool
  | .str m => Nat.ble m 69
  | _ => false
theorem memK_of : ∀ {l : List AV} {K : Bool → Prop} {b : Bool}, l.all isS = true → decide (AV.str n ∈ l) = b → K b → memK n l K
  | [], _, _, _, e, h => by cases e; exact h
  | .str m :: r, K, b, hl, e, h => by
    have hl := Bool.and_eq_true_iff.mp (show (Nat.ble m 69 && r.all isS) = true from hl)
    refine if_y hl.1 ?_
    cases hb : Nat.beq n m with
    | true =>
      have : K true := by
        rw [← e, decide_eq_true (show AV.str n ∈ AV.str m :: r by rw [Nat.eq_of_beq_eq_true hb]; exact List.mem_cons_self)] at h
        exact h
      exact if_y rfl (memK_of (K := fun zz => K true) hl.2 rfl this)
    | false =>
      refine if_z rfl (memK_of hl.2 ?_ h)
      rw [← e]
      refine decide_eq_decide.mpr ⟨List.mem_cons_of_mem _, fun h => ?_⟩
      rcases List.mem_cons.mp h with h | h
      · exact absurd (AV.str.inj h) (Nat.ne_of_beq_eq_false hb)
      · exact h
theorem lastK_of {K : AV → Prop} : ∀ {l : List AV}, l.getLast? = some v → K v → lastK l K
  | [_], e, h => by cases e; exact h
  | _ :: b :: r, e, h => lastK_of (l := b :: r) ((List.getLast?_cons_cons ..).symm.trans e) h
theorem lookK_of {K : AV → Prop} : ∀ {l : List (Nat × AV)}, lookN n l = some v → K v → lookK n l K
  | (m, u) :: r, e, h => by
    have e : (if m = n then some u else lookN n r) = some v := e
    cases hb : Nat.beq m n with
    | true => rw [if_pos (Nat.eq_of_beq_eq_true hb)] at e; cases e; exact if_y hb h
    | false => rw [if_neg (Nat.ne_of_beq_eq_false hb)] at e; exact if_z hb (lookK_of e h)
theorem p_idx_list (h : σ[c]? = some (.list l)) (e : seqAt l k = some v) : idxV (.cell c) (.int k) σ = some v := (congrArg (fun o => match o with | some (.list l) => seqAt l k | some (.dict l) => lookI k l | _ => none) h).trans e
theorem p_idx_dict {l : List (Int × AV)} (h : σ[c]? = some (.dict l)) (e : lookI k l = some v) : idxV (.cell c) (.int k) σ = some v := (congrArg (fun o => match o with | some (.list l) => seqAt l k | some (.dict l) => lookI k l | _ => none) h).trans e
theorem x_list {K : AV → Prop} (h : σ[c]? = some (.list l)) (e : seqAt l k = some v) (q : K v) : idxK (.cell c) (.int k) σ K := ⟨v, p_idx_list h e, q⟩
theorem x_dict {l : List (Int × AV)} {K : AV → Prop} (h : σ[c]? = some (.dict l)) (e : lookI k l = some v) (q : K v) : idxK (.cell c) (.int k) σ K := ⟨v, p_idx_dict h e, q⟩
theorem x_tup {K : AV → Prop} (e : seqAt l k = some v) (q : K v) : idxK (.tup l) (.int k) σ K := ⟨v, e, q⟩
theorem p_idx_tup (e : seqAt l k = some v) : idxV (.tup l) (.int k) σ = some v := e
theorem p_eq_plain (ha : AV.plain 8 a = true) (hb : AV.plain 8 b = true) : eqV a b σ = some (decide (a = b)) := eqV_plain ha hb
theorem eqV_cells {c d : Nat} {x y : List AV} (hx : σ[c]? = some (.list x)) (hy : σ[d]? = some (.list y)) (px : x.all (AV.plain 8) = true) (py : y.all (AV.plain 8) = true) : eqV (.cell c) (.cell d) σ = some (decide (x = y)) := by
  exact bindO (listAt_of hx) (bindO (listAt_of hy) (if_pos (by rw [px, py]; rfl)))
theorem p_setidx (h : σ[c]? = some (.list l)) (hk : 0 ≤ k ∧ k < l.length) : setIdxV (.cell c) (.int k) v σ = some (σ.set c (.list (l.set k.toNat v))) := (congrArg (fun o => match o with | some (.list l) => if 0 ≤ k ∧ k < l.length then some (σ.set c (.list (l.set k.toNat v))) else none | some (.dict l) => if l.length < lim then some (σ.set c (.dict (putI k v l))) else none | _ => none) h).trans (if_pos hk)
theorem p_setidxD {l : List (Int × AV)} (h : σ[c]? = some (.dict l)) (hk : l.length < lim) : setIdxV (.cell c) (.int k) v σ = some (σ.set c (.dict (putI k v l))) := (congrArg (fun o => match o with | some (.list l) => if 0 ≤ k ∧ k < l.length then some (σ.set c (.list (l.set k.toNat v))) else none | some (.dict l) => if l.length < lim then some (σ.set c (.dict (putI k v l))) else none | _ => none) h).trans (if_pos hk)
theorem y_list {K : Store → Prop} (h : σ[c]? = some (.list l)) (hk : 0 ≤ k ∧ k < l.length) (q : K (σ.set c (.list (l.set k.toNat v)))) : W1 (setIdxV (.cell c) (.int k) v σ) K := ⟨_, p_setidx h hk, q⟩
theorem y_dict {l : List (Int × AV)} {K : Store → Prop} (h : σ[c]? = some (.dict l)) (hk : l.length < lim) (q : K (σ.set c (.dict (putI k v l)))) : W1 (setIdxV (.cell c) (.int k) v σ) K := ⟨_, p_setidxD h hk, q⟩
theorem e_plain {K : Bool → Prop} (ha : AV.plain 8 a = true) (hb : AV.plain 8 b = true) (q : K (decide (a = b))) : W1 (eqV a b σ) K := ⟨_, eqV_plain ha hb, q⟩
theorem e_cells {c d : Nat} {x y : List AV} {K : Bool → Prop} (hx : σ[c]? = some (.list x)) (hy : σ[d]? = some (.list y)) (px : x.all (AV.plain 8) = true) (py : y.all (AV.plain 8) = true) (q : K (decide (x = y))) : W1 (eqV (.cell c) (.cell d) σ) K := ⟨_, eqV_cells hx hy px py, q⟩
theorem q_mul {Q : AV → Store → Prop} (hb : i.natAbs < 2 ^ 62 ∨ j.natAbs < 2 ^ 62) (h : Q (.int (i * j)) σ) : W2 (binV .Mult (.int i) (.int j) σ) Q := ⟨_, _, (congrArg (Option.map _) (if_pos hb) : Option.map (fun z => (AV.int z, σ)) (if i.natAbs < 2 ^ 62 ∨ j.natAbs < 2 ^ 62 then some (i * j) else none) = _), h⟩
theorem q_div {Q : AV → Store → Prop} (hb : 0 < j ∧ j < 1073741824) (h : Q (.int (i.fdiv j)) σ) : W2 (binV .FloorDiv (.int i) (.int j) σ) Q := ⟨_, _, (congrArg (Option.map _) (if_pos hb) : Option.map (fun z => (AV.int z, σ)) (if 0 < j ∧ j < 1073741824 then some (i.fdiv j) else none) = _), h⟩
theorem q_mod {Q : AV → Store → Prop} (hb : ¬ j = 0) (h : Q (.int (i.fmod j)) σ) : W2 (binV .Mod (.int i) (.int j) σ) Q := ⟨_, _, (congrArg (Option.map _) (if_neg hb) : Option.map (fun z => (AV.int z, σ)) (if j = 0 then none else some (i.fmod j)) = _), h⟩
theorem q_mulL {Q : AV → Store → Prop} (hx : σ[c]? = some (.list [v])) (hb : 0 ≤ i ∧ i ≤ 64) (h : NewL σ (.list (List.replicate i.toNat v)) Q) : W2 (binV .Mult (.cell c) (.int i) σ) Q :=
  ⟨_, _, bindO (listAt_of hx) (if_pos hb), newL_ok h⟩
theorem q_popAt {Q : AV → Store → Prop} (h : σ[c]? = some (.list l)) (hk : 0 ≤ k) (e : l[k.toNat]? = some v) (q : Q v (σ.set c (.list (l.eraseIdx k.toNat)))) : W2 (popAtV (.cell c) (.int k) σ) Q := ⟨_, _, bindO (listAt_of h) ((if_pos hk).trans (mapO e)), q⟩
theorem q_sliceT {Q : AV → Store → Prop} (hk : 1 ≤ k ∧ k ≤ l.length) (q : Q (.tup (l.drop k.toNat)) σ) : W2 (sliceV (.tup l) (some k) none σ) Q := ⟨_, _, if_pos hk, q⟩
theorem q_sliceTm {Q : AV → Store → Prop} (hk : l ≠ []) (q : Q (.tup l.dropLast) σ) : W2 (sliceV (.tup l) none (some (-1)) σ) Q := ⟨_, _, if_pos ⟨rfl, hk⟩, q⟩
theorem q_sliceL {Q : AV → Store → Prop} (h : σ[c]? = some (.list l)) (hk : 0 ≤ k) (q : NewL σ (.list (l.take k.toNat)) Q) : W2 (sliceV (.cell c) none (some k) σ) Q := ⟨_, _, bindO (listAt_of h) (mapO (if_pos hk)), newL_ok q⟩
theorem q_sortedL {Q : AV → Store → Prop} {ns xs : List Int} (h : σ[c]? = some (.list l)) (e : intsOf l = some xs) (hl : xs.length < 64) (q : NewL σ (.list ((sortI xs).map .int)) Q) : W2 (biV ns .sorted (.cell c) σ) Q := ⟨_, _, (congrArg (fun (o : Option Cell) => match o with | some (.list l) => (intsOf l).bind fun xs => if xs.length < 64 then some (newCell (.list ((sortI xs).map .int)) σ) else none | some (.dict l) => if l.length < 64 then some (newCell (.list ((sortI (l.map (fun (p : Int × AV) => p.1))).map .int)) σ) else none | _ => none) h).trans (bindO e (if_pos hl)), newL_ok q⟩
theorem q_sortedT {Q : AV → Store → Prop} {ns xs : List Int} (e : intsOf l = some xs) (hl : xs.length < 64) (q : NewL σ (.list ((sortI xs).map .int)) Q) : W2 (biV ns .sorted (.tup l) σ) Q := ⟨_, _, bindO e (if_pos hl), newL_ok q⟩
theorem q_sortedD {Q : AV → Store → Prop} {ns : List Int} {d : List (Int × AV)} (h : σ[c]? = some (.dict d)) (hl : d.length < 64) (q : NewL σ (.list ((sortI (d.map (·.1))).map .int)) Q) : W2 (biV ns .sorted (.cell c) σ) Q := ⟨_, _, (congrArg (fun (o : Option Cell) => match o with | some (.list l) => (intsOf l).bind fun xs => if xs.length < 64 then some (newCell (.list ((sortI xs).map .int)) σ) else none | some (.dict l) => if l.length < 64 then some (newCell (.list ((sortI (l.map (fun (p : Int × AV) => p.1))).map .int)) σ) else none | _ => none) h).trans (if_pos hl), newL_ok q⟩
/-! what lies in a store -/
theorem get_app {x : List Cell} {y : Cell} (h : σ[c]? = some y) : (σ ++ x)[c]? = some y := by
  obtain ⟨hi, zz⟩ := List.getElem?_eq_some_iff.mp h
  rw [List.getElem?_append_left hi]; exact h
theorem get_set_ne {d : Nat} {x y : Cell} (h : σ[c]? = some y) (hne : d ≠ c) : (σ.set d x)[c]? = some y := by rw [List.getElem?_set_ne hne]; exact h
theorem get_set_eq {x : Cell} (h : c < σ.length) : (σ.set c x)[c]? = some x := List.getElem?_set_self h
theorem get_set_eq2 {x y : Cell} (h : c < σ.length) (e : x = y) : (σ.set c x)[c]? = some y := e ▸ List.getElem?_set_self h
theorem get_new {x : Cell} : (σ ++ [x])[σ.length]? = some x := by simp
theorem lt_of_get {y : Cell} (h : σ[c]? = some y) : c < σ.length := (List.getElem?_eq_some_iff.mp h).1
theorem lt_app {x : List Cell} (h : c < σ.length) : c < (σ ++ x).length := by rw [List.length_append]; exact Nat.lt_of_lt_of_le h (Nat.le_add_right _ _)
theorem lt_set {d : Nat} {x : Cell} (h : c < σ.length) : c < (σ.set d x).length := by rw [List.length_set]; exact h
theorem lt_new {x : Cell} : σ.length < (σ ++ [x]).length := by simp
theorem lt_new2 {τ : Store} {x : Cell} (h : σ.length ≤ τ.length) : σ.length < (τ ++ [x]).length := by rw [List.length_append]; exact Nat.lt_succ_of_le h
end
theorem Fm.refl (X : List Nat) (σ : Store) : Fm X σ σ := ⟨Nat.le_refl _, fun zz zz zz => rfl⟩
theorem Fm.trans {X : List Nat} {σ σ' σ'' : Store} (x : Fm X σ σ') (y : Fm X σ' σ'') : Fm X σ σ'' := ⟨Nat.le_trans x.le y.le, fun i h n => (y.keep i (Nat.lt_of_lt_of_le h x.le) n).trans (x.keep i h n)⟩
theorem Fm.mono {X Y : List Nat} {σ σ' : Store} (x : Fm X σ σ') (h : ∀ i ∈ X, i < σ.length → i ∈ Y) : Fm Y σ σ' := ⟨x.le, fun i hi n => x.keep i hi fun m => n (h i m hi)⟩
theorem Fm.nil {X : List Nat} {σ σ' : Store} (x : Fm [] σ σ') : Fm X σ σ' := x.mono fun zz h => nomatch h
theorem Fm.set {X : List Nat} {σ : Store} {c : Nat} {x : Cell} (h : c ∈ X) : Fm X σ (σ.set c x) := ⟨by simp, fun i zz n => List.getElem?_set_ne (fun e => n (by rw [← e]; exact h))⟩
theorem Fm.app {X : List Nat} {σ x : Store} : Fm X σ (σ ++ x) := ⟨by simp, fun zz h zz => List.getElem?_append_left h⟩
theorem Fm.get {X : List Nat} {σ σ' : Store} {i : Nat} {c : Cell} (x : Fm X σ σ') (h : σ[i]? = some c) (n : i ∉ X) : σ'[i]? = some c := (x.keep i (lt_of_get h) n).trans h
theorem Fm.lt {X : List Nat} {σ σ' : Store} {i : Nat} (x : Fm X σ σ') (h : i < σ.length) : i < σ'.length := Nat.lt_of_lt_of_le h x.le
theorem Fm.setNew {X : List Nat} {σ σ' : Store} {c : Nat} {x : Cell} (f : Fm X σ σ') (h : σ.length ≤ c) : Fm X σ (σ'.set c x) := ⟨by simpa using f.le, fun i hi n => (List.getElem?_set_ne (Nat.ne_of_gt (Nat.lt_of_lt_of_le hi h))).trans (f.keep i hi n)⟩
theorem Fm.transNew {X Y : List Nat} {σ σ' σ'' : Store} (x : Fm X σ σ') (y : Fm Y σ' σ'') (h : ∀ i ∈ Y, i ∈ X ∨ σ.length ≤ i) : Fm X σ σ'' :=
  ⟨Nat.le_trans x.le y.le, fun i hi n => (y.keep i (Nat.lt_of_lt_of_le hi x.le) fun m => (h i m).elim n (fun q => absurd hi (Nat.not_lt.mpr q))).trans (x.keep i hi n)⟩
theorem ge_tr {σ s : Store} {c : Nat} (h : s.length ≤ c) (h2 : σ.length ≤ s.length) : σ.length ≤ c := Nat.le_trans h2 h
theorem len_tr {X : List Nat} {σ s τ : Store} (F : Fm X s τ) (h : σ.length ≤ s.length) : σ.length ≤ τ.length := Nat.le_trans h F.le
theorem len_set {σ τ : Store} {c : Nat} {x : Cell} (h : σ.length ≤ τ.length) : σ.length ≤ (τ.set c x).length := by rw [List.length_set]; exact h
theorem ne_new {s : Store} {a b : Nat} (h : s.length ≤ a) (h2 : b < s.length) : b ≠ a := Nat.ne_of_lt (Nat.lt_of_lt_of_le h2 h)
theorem ne_new' {s : Store} {a b : Nat} (h : s.length ≤ a) (h2 : b < s.length) : a ≠ b := (ne_new h h2).symm
theorem fm_tr {X : List Nat} {σ σ' τ : Store} (y : Fm X σ' τ) (x : Fm X σ σ') : Fm X σ τ := x.trans y
theorem ni1 {i a : Nat} (h : i ≠ a) : i ∉ [a] := by simp [h]
theorem ni2 {i a b : Nat} (h : i ≠ a) (h2 : i ≠ b) : i ∉ [a, b] := by simp [h, h2]
theorem ni3 {i a b c : Nat} (h : i ≠ a) (h2 : i ≠ b) (h3 : i ≠ c) : i ∉ [a, b, c] := by simp [h, h2, h3]
theorem ni4 {i a b c d : Nat} (h : i ≠ a) (h2 : i ≠ b) (h3 : i ≠ c) (h4 : i ≠ d) : i ∉ [a, b, c, d] := by simp [h, h2, h3, h4]
theorem get_set_ne' {σ : Store} {c d : Nat} {x y : Cell} (hne : d ≠ c) (h : σ[c]? = some y) : (σ.set d x)[c]? = some y := by rw [List.getElem?_set_ne hne]; exact h
theorem get_fm {X : List Nat} {σ τ : Store} {i : Nat} {c : Cell} (x : Fm X σ τ) (n : i ∉ X) (h : σ[i]? = some c) : τ[i]? = some c := x.get h n
theorem fm_setN {X : List Nat} {σ s : Store} {c : Nat} {x : Cell} (h : σ.length ≤ c) (f : Fm X σ s) : Fm X σ (s.set c x) := f.setNew h
theorem fm_set {X : List Nat} {σ s : Store} {c : Nat} {x : Cell} (h : c ∈ X) (f : Fm X σ s) : Fm X σ (s.set c x) := f.trans (Fm.set h)
theorem fm_trN {X : List Nat} {σ σ' τ : Store} (y : Fm [] σ' τ) (x : Fm X σ σ') : Fm X σ τ := x.trans y.nil
local macro_rules | `(tactic| tm_at "t") => `(tactic| with_reducible first
  | assumption
  | exact lt_of_get (by assumption)
  | (refine lt_set ?_; tm_at "t")
  | (refine lt_app ?_; tm_at "t")
  | exact Fm.lt (by assumption) (by tm_at "t")
  | fail)
local macro_rules | `(tactic| tm_at "e") => `(tactic| with_reducible first
  | assumption
  | exact Nat.le_refl _
  | (refine len_set ?_; tm_at "e")
  | exact len_tr (by assumption) (by tm_at "e")
  | fail)
local macro_rules | `(tactic| tm_at "g") => `(tactic| with_reducible first
  | assumption
  | exact ge_tr (by assumption) (by tm_at "e")
  | fail)
local macro_rules | `(tactic| tm_at "n") => `(tactic| with_reducible first
  | assumption
  | exact Ne.symm (by assumption)
  | exact ne_new (by assumption) (by tm_at "t")
  | exact ne_new' (by assumption) (by tm_at "t")
  | fail)
local macro_rules | `(tactic| tm_at "o") => `(tactic| with_reducible first
  | exact List.not_mem_nil
  | exact ni1 (by tm_at "n")
  | exact ni2 (by tm_at "n") (by tm_at "n")
  | exact ni3 (by tm_at "n") (by tm_at "n") (by tm_at "n")
  | exact ni4 (by tm_at "n") (by tm_at "n") (by tm_at "n") (by tm_at "n")
  | fail)
local macro_rules | `(tactic| tm_at "l") => `(tactic| first
  | with_reducible assumption
  | (with_reducible refine get_set_eq2 ?_ ?_; tm_at "t"; with_unfolding_all exact rfl)
  | (with_reducible refine get_set_ne' ?_ ?_; tm_at "n"; tm_at "l")
  | (with_reducible apply get_fm; (with_reducible assumption); tm_at "o"; tm_at "l")
  | assumption
  | fail)
local macro_rules | `(tactic| tm_at "i") => `(tactic| with_reducible first | exact List.mem_cons_self | (refine List.mem_cons_of_mem _ ?_; tm_at "i") | fail)
local macro_rules | `(tactic| tm_at "f") => `(tactic| first
  | with_reducible assumption
  | with_reducible exact Fm.refl _ _
  | with_reducible exact Fm.nil (by assumption)
  | (with_reducible refine fm_set ?_ ?_; tm_at "i"; tm_at "f")
  | (with_reducible refine fm_setN ?_ ?_; tm_at "g"; tm_at "f")
  | (with_reducible apply fm_tr; (with_reducible assumption); tm_at "f")
  | (with_reducible apply fm_trN; (with_reducible assumption); tm_at "f")
  | fail)
local macro_rules | `(tactic| tm_at "s") => `(tactic| first | assumption | rfl)
local macro_rules | `(tactic| tm_at "w") => `(tactic| first | assumption | decide | (simp [lim]; done) | (simp [lim]; omega) | (unfold lim at *; simp at *; omega) | omega)
-- P5
section
open PySem
theorem int2 {g : Int} (a : 0 ≤ g) (b : g < 2) : g = 0 ∨ g = 1 := by omega
theorem int3 {g : Int} (a : 0 ≤ g) (b : g < 3) : g = 0 ∨ g = 1 ∨ g = 2 := by omega
noncomputable abbrev sig (n : Int) : AV := .tup [.str 11, .int 4, .int n]
section
variable {W n : Nat} {ns : List Int} {σ : Store}
theorem c_emit {m c : Nat} {k : Int} {l : List AV} {row : AV} {Q : AV → Store → Prop} (hm : σ[m]? = some (mkObj k c)) (hc : σ[c]? = some (.list l)) (hl : l.length < lim)
    (h : ∀ σ', Fm [m, c] σ σ' → σ'[m]? = some (mkObj k c) → σ'[c]? = some (.list (l ++ [row])) → Q (.int l.length) σ') : Meth (run W ns (n + 1)) .emit m [row] σ σ Q := by
  have hne : c ≠ m := fun e => by subst e; rw [hm] at hc; cases hc
  refine methE (by assumption) ?_
  refine gO (by tm_at "l") ?_; refine app1 (by tm_at "l") (by tm_at "w") ?_; refine gO (by tm_at "l") ?_; refine gL (by tm_at "l") ?_
  have e : ((l ++ [row]).length : Int) - 1 = l.length := by simp
  exact (congrArg (fun i => Q (.int i) _) e).mpr (h (σ.set c (.list (l ++ [row]))) (by tm_at "f") (by tm_at "l") (by tm_at "l"))
theorem c_here {m c : Nat} {k : Int} {l : List AV} {Q : AV → Store → Prop} (hm : σ[m]? = some (mkObj k c)) (hc : σ[c]? = some (.list l)) (h : Q (.int l.length) σ) : Meth (run W ns (n + 1)) .here m [] σ σ Q := by
  refine methE (by assumption) ?_
  refine gO (by tm_at "l") ?_; refine gL (by tm_at "l") ?_
  exact h
theorem c_new_slot {m c : Nat} {k : Int} {l : List AV} {Q : AV → Store → Prop} (hm : σ[m]? = some (mkObj k c)) (hc : σ[c]? = some (.list l))
    (h : ∀ σ', Fm [m, c] σ σ' → σ'[m]? = some (mkObj (k + 1) c) → σ'[c]? = some (.list l) → Q (.int k) σ') : Meth (run W ns (n + 1)) .new_slot m [] σ σ Q := by
  have hne : c ≠ m := fun e => by subst e; rw [hm] at hc; cases hc
  refine methE (by assumption) ?_
  refine gO (by tm_at "l") ?_; refine gO (by tm_at "l") ?_; refine gO (by tm_at "l") ?_
  exact h _ (by tm_at "f") (by tm_at "l") (by tm_at "l")
theorem c_law_new {s : Nat} {a b d : Int} {Q : AV → Store → Prop} (hs : σ[s]? = some (.list [.int a, .int b, .int d])) (h : ∀ σ', Fm [s] σ σ' → σ'[s]? = some (.list [.int (a + 1), .int b, .int d]) → Q (sig (a + 1)) σ') : W2 (run W ns (n + 1) .law_new [.cell s] σ) Q := by
  refine enter ?_
  refine x_list (by tm_at "l") (by tm_at "s") ?_; refine y_list (by tm_at "l") (by tm_at "w") ?_; refine gL (by tm_at "l") ?_
  exact h _ (by tm_at "f") (by tm_at "l")
theorem c_law_pull {b : Nat} {x y : Int} {l : List Int} {many : Int} {Q : AV → Store → Prop} (hb : σ[b]? = some (.list (.int x :: .int y :: l.map .int))) (hm : 0 < many ∧ many < 1073741824)
    (h : ∀ σ' got x' y' l', 0 ≤ got → got < many → Fm [b] σ σ' → σ'[b]? = some (.list (.int x' :: .int y' :: List.map .int l')) → Q (.int got) σ') : W2 (run W ns (n + 1) .law_pull [.cell b, .int many] σ) Q := by
  have fin : ∀ (σ0 : Store) (x y : Int) (l : List Int), Fm [b] σ σ0 → σ0[b]? = some (.list (.int x :: .int y :: l.map .int)) →
      Q (.int (x.fmod many)) (σ0.set b (.list (.int (x.fdiv many) :: .int y :: l.map .int))) := fun σ0 x y l F hb0 => by
    refine h _ _ (x.fdiv many) y l ?_ ?_ (F.trans (Fm.set (by simp))) (get_set_eq (lt_of_get hb0))
    · exact Int.fmod_nonneg_of_pos _ hm.1
    · exact Int.fmod_lt_of_pos _ hm.1
  refine enter ?_
  cases l with
  | nil =>
    refine gL (by tm_at "l") ?_; refine if_d (fun vh => ?_) (fun vh => ?_); refine gL (by tm_at "l") ?_; refine gL (by tm_at "l") ?_; refine q_mul (by first | decide | (left; decide) | (right; decide)) ?_; refine q_mod (by first | assumption | decide | omega) ?_; refine y_list (by tm_at "l") (by tm_at "w") ?_; refine gL (by tm_at "l") ?_; refine q_div (by first | assumption | decide | omega) ?_; refine y_list (by tm_at "l") (by tm_at "w") ?_; refine gL (by tm_at "l") ?_; refine q_mod (by first | assumption | decide | omega) ?_; refine gL (by tm_at "l") ?_; refine q_div (by first | assumption | decide | omega) ?_; refine y_list (by tm_at "l") (by tm_at "w") ?_; rotate_left; refine gL (by tm_at "l") ?_; refine q_mod (by first | assumption | decide | omega) ?_; refine gL (by tm_at "l") ?_; refine q_div (by first | assumption | decide | omega) ?_; refine y_list (by tm_at "l") (by tm_at "w") ?_; rotate_left
    · exact fin _ _ _ [] (by tm_at "f") (by tm_at "l")
    · exact fin _ _ _ [] (by tm_at "f") (by tm_at "l")
  | cons z l =>
    refine gL (by tm_at "l") ?_; refine if_d (fun vh => ?_) (fun vh => ?_); refine gL (by tm_at "l") ?_; refine if_d (fun vh => ?_) (fun vh => ?_); refine gL (by tm_at "l") ?_; refine q_popAt (by tm_at "l") (by first | decide | omega) (by tm_at "s") ?_; refine if_d (fun vh => ?_) (fun vh => ?_); refine q_mul (by first | decide | (left; decide) | (right; decide)) ?_; refine y_list (by tm_at "l") (by tm_at "w") ?_; refine gL (by tm_at "l") ?_; refine q_mod (by first | assumption | decide | omega) ?_; refine gL (by tm_at "l") ?_; refine q_div (by first | assumption | decide | omega) ?_; refine y_list (by tm_at "l") (by tm_at "w") ?_; rotate_left; refine q_mul (by first | decide | (left; decide) | (right; decide)) ?_; refine y_list (by tm_at "l") (by tm_at "w") ?_; refine gL (by tm_at "l") ?_; refine q_mod (by first | assumption | decide | omega) ?_; refine gL (by tm_at "l") ?_; refine q_div (by first | assumption | decide | omega) ?_; refine y_list (by tm_at "l") (by tm_at "w") ?_; rotate_left; refine gL (by tm_at "l") ?_; refine q_mul (by first | decide | (left; decide) | (right; decide)) ?_; refine q_mod (by first | assumption | decide | omega) ?_; refine y_list (by tm_at "l") (by tm_at "w") ?_; refine gL (by tm_at "l") ?_; refine q_div (by first | assumption | decide | omega) ?_; refine y_list (by tm_at "l") (by tm_at "w") ?_; refine gL (by tm_at "l") ?_; refine q_mod (by first | assumption | decide | omega) ?_; refine gL (by tm_at "l") ?_; refine q_div (by first | assumption | decide | omega) ?_; refine y_list (by tm_at "l") (by tm_at "w") ?_; rotate_left; refine gL (by tm_at "l") ?_; refine q_mod (by first | assumption | decide | omega) ?_; refine gL (by tm_at "l") ?_; refine q_div (by first | assumption | decide | omega) ?_; refine y_list (by tm_at "l") (by tm_at "w") ?_; rotate_left
    · exact fin _ _ _ l (by tm_at "f") (by tm_at "l")
    · exact fin _ _ _ l (by tm_at "f") (by tm_at "l")
    · exact absurd (by simp; omega) vh
    · exact fin _ _ _ (z :: l) (by tm_at "f") (by tm_at "l")
theorem c_control_d {m c : Nat} {k : Int} {l : List AV} {e : AV} {Q : AV → Store → Prop} (hm : σ[m]? = some (mkObj k c)) (hc : σ[c]? = some (.list l)) (hl : l.length < lim)
    (h : ∀ σ', Fm [m, c] σ σ' → σ'[m]? = some (mkObj k c) → σ'[c]? = some (.list (l ++ [.tup [.str 30, e]])) → Q .none σ') : Meth (run W ns (n + 2)) .control m [.tup [.str 30, e]] σ σ Q := by
  refine methE (by assumption) ?_
  skip
  refine c_emit hm hc hl fun σ' F hm' hc' => ?_
  skip
  exact h σ' F hm' hc'
end
end
-- P6
section
open PySem
inductive Row where
  | setE (k n : Int) | setL (k s : Int) | save (s n : Int) | delay (n : Int) | awaitP (n : Int) | awaitA (n : Int) | waitfor (n : Int) | nba0 (n : Int) | nba1 (n d : Int)
  | unless (n t : Int) | jump (t : Int) | matS (s lab t : Int) | matC (lab t : Int) | times (s n : Int) | again (s t : Int) | enter (c t : Int) | leave (c : Int)
  | fork (ts : List Int) (c : Int) | join | fin | ret | trig (b : Bool) (n : Int) | call (n : Int) | sys (n : Int)
  deriving DecidableEq
noncomputable abbrev cst (i : Int) : AV := .tup [.str 44, .int 4, .int i, .int 0]
noncomputable abbrev loc (s : Int) : AV := .tup [.str 49, .int 4, .int s]
noncomputable abbrev ctlD (n : Int) : AV := .tup [.str 30, sig n]
noncomputable abbrev ctlA (n : Int) : AV := .tup [.str 31, .tup [.tup [.str 35, sig n]]]
noncomputable abbrev anyEv (n : Int) : AV := .tup [.tup [.str 45, sig n], .tup [.str 45, .tup [.str 12, .int 1, .int 3]]]
@[simp, reducible] noncomputable def Row.av : Row → AV
  | .setE k n => .tup [.str 28, .int k, sig n]
  | .setL k s => .tup [.str 28, .int k, loc s]
  | .save s n => .tup [.str 47, .int s, sig n]
  | .delay n => .tup [.str 30, sig n]
  | .awaitP n => ctlA n
  | .awaitA n => .tup [.str 31, anyEv n]
  | .waitfor n => .tup [.str 48, sig n, .tup [.int n]]
  | .nba0 n => .tup [.str 29, .int 7, sig n, .none]
  | .nba1 n d => .tup [.str 29, .int 7, sig n, sig d]
  | .unless n t => .tup [.str 19, sig n, .int t]
  | .jump t => .tup [.str 14, .int t]
  | .matS s lab t => .tup [.str 17, .str 38, loc s, cst lab, .int t]
  | .matC lab t => .tup [.str 17, .str 38, cst 5, cst lab, .int t]
  | .times s n => .tup [.str 51, .int s, sig n, .bool true]
  | .again s t => .tup [.str 20, .int s, .int t]
  | .enter c t => .tup [.str 21, .int c, .int t]
  | .leave c => .tup [.str 22, .int c]
  | .fork ts c => .tup [.str 18, .tup (ts.map .int), .int c]
  | .join => .tup [.str 52]
  | .fin => .tup [.str 15]
  | .ret => .tup [.str 16]
  | .trig b n => .tup [.str (if b then 33 else 32), .int n]
  | .call n => .tup [.str 9, .int n, .tup [], .tup []]
  | .sys n => .tup [.str 10, .str 34, .tup [.int n]]
noncomputable def pairAV (p : Int × Nat) : AV := .tup [.int p.1, .str p.2]
noncomputable def MakeOk (s : AV) (d len nsl : Nat) (R : Nat → Nat → List Row) : Prop :=
  (∀ p k, (R p k).length = len) ∧ ∀ (W n : Nat) (ns : List Int) (m c k : Nat) (l : List AV) (σ : Store) (Q : AV → Store → Prop), d ≤ n → σ[m]? = some (mkObj k c) → σ[c]? = some (.list l) → l.length + len ≤ 1000000 →
    (∀ σ', Fm [m, c] σ σ' → σ'[m]? = some (mkObj ((k + nsl : Nat) : Int) c) → σ'[c]? = some (.list (l ++ (R l.length k).map Row.av)) → Q .none σ') → Meth (run (W + 2) ns n) .make m [s] σ σ Q
noncomputable def ActsOk (s : AV) (d : Nat) (acts : List AV) (op : List (Int × Nat)) (fk : List Nat) : Prop :=
  ∀ (W n : Nat) (ns : List Int) (a f f0 f1 : Nat) (A O K : List AV) (σ : Store) (Q : AV → Store → Prop), d ≤ n → σ[a]? = some (.list A) → σ[f]? = some (.list [.cell f0, .cell f1]) → σ[f0]? = some (.list O) → σ[f1]? = some (.list K) →
    a ≠ f → a ≠ f0 → a ≠ f1 → f ≠ f0 → f ≠ f1 → f0 ≠ f1 → A.length + acts.length ≤ 1000000 → O.length + op.length ≤ 1000000 → K.length + fk.length ≤ 1000000 →
    (∀ σ', Fm [a, f0, f1] σ σ' → σ'[a]? = some (.list (A ++ acts)) → σ'[f0]? = some (.list (O ++ op.map pairAV)) → σ'[f1]? = some (.list (K ++ fk.map fun i => .int i)) → Q .none σ') → W2 (run W ns n .law_acts [s, .cell a, .cell f] σ) Q
section
variable {W n : Nat} {ns : List Int} {σ : Store}
theorem c_control_a {m c : Nat} {k : Int} {l : List AV} {e : AV} {Q : AV → Store → Prop} (hm : σ[m]? = some (mkObj k c)) (hc : σ[c]? = some (.list l)) (hl : l.length < lim)
    (h : ∀ σ', Fm [m, c] σ σ' → σ'[m]? = some (mkObj k c) → σ'[c]? = some (.list (l ++ [.tup [.str 31, e]])) → Q .none σ') : Meth (run W ns (n + 2)) .control m [.tup [.str 31, e]] σ σ Q := by
  refine methE (by assumption) ?_
  skip
  refine c_emit hm hc hl fun σ' F hm' hc' => ?_
  skip
  exact h σ' F hm' hc'
end
theorem mk_none : MakeOk .none 1 0 0 (fun zz zz => []) := by
  refine ⟨fun zz zz => rfl, fun W n ns m c k l σ Q hn hm hc hl h => ?_⟩
  obtain ⟨n, rfl⟩ : ∃ j, n = j + 1 := ex_add (by exact hn)
  refine methE (by assumption) ?_
  skip
  exact h σ (by tm_at "f") hm (by simpa using hc)
theorem ac_none : ActsOk .none 1 [] [] [] := by
  intro W n ns a f f0 f1 A O K σ Q hn ha hf h0 h1 _ _ _ _ _ _ _ _ _ h
  obtain ⟨n, rfl⟩ : ∃ j, n = j + 1 := ex_add (by exact hn)
  refine enter ?_
  skip
  exact h σ (by tm_at "f") (by simpa using ha) (by simpa using h0) (by simpa using h1)
theorem mk_set0 (w e : Int) : MakeOk (.tup [.str 28, .int w, sig e, .none]) 3 1 0 (fun zz zz => [.setE w e]) := by
  refine ⟨fun zz zz => rfl, fun W n ns m c k l σ Q hn hm hc hl h => ?_⟩
  obtain ⟨n, rfl⟩ : ∃ j, n = j + 3 := ex_add (by exact hn)
  refine methE (by assumption) ?_
  skip
  refine methE (by assumption) ?_
  skip
  refine c_emit hm hc (by tm_at "w") fun σ' F hm' hc' => ?_
  skip
  exact h σ' F hm' hc'
theorem ac_set0 (w e : Int) : ActsOk (.tup [.str 28, .int w, sig e, .none]) 1 [(Row.setE w e).av] [] [] := by
  intro W n ns a f f0 f1 A O K σ Q hn ha hf h0 h1 _ _ _ _ _ _ lA lO lK h
  obtain ⟨n, rfl⟩ : ∃ j, n = j + 1 := ex_add (by exact hn)
  refine enter ?_
  refine app1 (by tm_at "l") (by tm_at "w") ?_
  exact h _ (by tm_at "f") (by tm_at "l") (by simpa using get_set_ne h0 ‹_›) (by simpa using get_set_ne h1 ‹_›)
theorem mk_setD (w e d : Int) : MakeOk (.tup [.str 28, .int w, sig e, ctlD d]) 4 3 1 (fun zz k => [.save k e, .delay d, .setL w k]) := by
  refine ⟨fun zz zz => rfl, fun W n ns m c k l σ Q hn hm hc hl h => ?_⟩
  obtain ⟨n, rfl⟩ : ∃ j, n = j + 4 := ex_add (by exact hn)
  refine methE (by assumption) ?_
  skip
  refine methE (by assumption) ?_
  skip
  refine c_new_slot hm hc fun σ1 F1 hm1 hc1 => ?_
  skip
  refine c_emit hm1 hc1 (by tm_at "w") fun σ2 F2 hm2 hc2 => ?_
  skip
  refine c_control_d hm2 hc2 (by tm_at "w") fun σ3 F3 hm3 hc3 => ?_
  skip
  refine c_emit hm3 hc3 (by tm_at "w") fun σ4 F4 hm4 hc4 => ?_
  skip
  exact h σ4 (((F1.trans F2).trans F3).trans F4) hm4 (by simpa using hc4)
end
-- P7
open PySem
theorem mk_setA (w e d : Int) : MakeOk (.tup [.str 28, .int w, sig e, ctlA d]) 4 3 1 (fun zz k => [.save k e, .awaitP d, .setL w k]) := by
  refine ⟨fun zz zz => rfl, fun W n ns m c k l σ Q hn hm hc hl h => ?_⟩
  obtain ⟨n, rfl⟩ : ∃ j, n = j + 4 := ex_add (by exact hn)
  refine methE (by assumption) ?_
  skip
  refine methE (by assumption) ?_
  skip
  refine c_new_slot hm hc fun σ1 F1 hm1 hc1 => ?_
  skip
  refine c_emit hm1 hc1 (by tm_at "w") fun σ2 F2 hm2 hc2 => ?_
  skip
  refine c_control_a hm2 hc2 (by tm_at "w") fun σ3 F3 hm3 hc3 => ?_
  skip
  refine c_emit hm3 hc3 (by tm_at "w") fun σ4 F4 hm4 hc4 => ?_
  skip
  exact h σ4 (((F1.trans F2).trans F3).trans F4) hm4 (by simpa using hc4)
theorem mk_nba0 (e : Int) : MakeOk (.tup [.str 29, .int 7, sig e, .none]) 3 1 0 (fun zz zz => [.nba0 e]) := by
  refine ⟨fun zz zz => rfl, fun W n ns m c k l σ Q hn hm hc hl h => ?_⟩
  obtain ⟨n, rfl⟩ : ∃ j, n = j + 3 := ex_add (by exact hn)
  refine methE (by assumption) ?_
  skip
  refine methE (by assumption) ?_
  skip
  refine c_emit hm hc (by tm_at "w") fun σ' F hm' hc' => ?_
  skip
  exact h σ' F hm' hc'
theorem mk_nba1 (e d : Int) : MakeOk (.tup [.str 29, .int 7, sig e, ctlD d]) 3 1 0 (fun zz zz => [.nba1 e d]) := by
  refine ⟨fun zz zz => rfl, fun W n ns m c k l σ Q hn hm hc hl h => ?_⟩
  obtain ⟨n, rfl⟩ : ∃ j, n = j + 3 := ex_add (by exact hn)
  refine methE (by assumption) ?_
  skip
  refine methE (by assumption) ?_
  skip
  refine c_emit hm hc (by tm_at "w") fun σ' F hm' hc' => ?_
  skip
  exact h σ' F hm' hc'
theorem mk_trig (b : Bool) (e : Int) : MakeOk (Row.trig b e).av 2 1 0 (fun zz zz => [.trig b e]) := by
  cases b
  · refine ⟨fun zz zz => rfl, fun W n ns m c k l σ Q hn hm hc hl h => ?_⟩
    obtain ⟨n, rfl⟩ : ∃ j, n = j + 2 := ex_add (by exact hn)
    refine methE (by assumption) ?_
    skip
    refine c_emit hm hc (by tm_at "w") fun σ' F hm' hc' => ?_
    skip
    exact h σ' F hm' hc'
  · refine ⟨fun zz zz => rfl, fun W n ns m c k l σ Q hn hm hc hl h => ?_⟩
    obtain ⟨n, rfl⟩ : ∃ j, n = j + 2 := ex_add (by exact hn)
    refine methE (by assumption) ?_
    skip
    refine c_emit hm hc (by tm_at "w") fun σ' F hm' hc' => ?_
    skip
    exact h σ' F hm' hc'
theorem mk_call (e : Int) : MakeOk (Row.call e).av 2 1 0 (fun zz zz => [.call e]) := by
  refine ⟨fun zz zz => rfl, fun W n ns m c k l σ Q hn hm hc hl h => ?_⟩
  obtain ⟨n, rfl⟩ : ∃ j, n = j + 2 := ex_add (by exact hn)
  refine methE (by assumption) ?_
  skip
  refine c_emit hm hc (by tm_at "w") fun σ' F hm' hc' => ?_
  skip
  exact h σ' F hm' hc'
theorem mk_sys (e : Int) : MakeOk (Row.sys e).av 2 1 0 (fun zz zz => [.sys e]) := by
  refine ⟨fun zz zz => rfl, fun W n ns m c k l σ Q hn hm hc hl h => ?_⟩
  obtain ⟨n, rfl⟩ : ∃ j, n = j + 2 := ex_add (by exact hn)
  refine methE (by assumption) ?_
  skip
  refine c_emit hm hc (by tm_at "w") fun σ' F hm' hc' => ?_
  skip
  exact h σ' F hm' hc'
theorem get_congr {σ : Store} {i : Nat} {l l' : List AV} (h : σ[i]? = some (.list l)) (e : l = l') : σ[i]? = some (.list l') := e ▸ h
local macro_rules | `(tactic| tm_at "p") => `(tactic| (refine get_congr (by tm_at "l") ?_; simp))
theorem ac_setD (w e d : Int) : ActsOk (.tup [.str 28, .int w, sig e, ctlD d]) 1 [.tup [.str 47, sig e], ctlD d, .tup [.str 28, .int w, .none]] [] [] := by
  intro W n ns a f f0 f1 A O K σ Q hn ha hf h0 h1 n1 n2 n3 n4 n5 n6 lA lO lK h
  obtain ⟨n, rfl⟩ : ∃ j, n = j + 1 := ex_add (by exact hn)
  refine enter ?_
  refine app1 (by tm_at "l") (by tm_at "w") ?_; refine app1 (by tm_at "l") (by tm_at "w") ?_; refine app1 (by tm_at "l") (by tm_at "w") ?_
  exact h _ (by tm_at "f") (by tm_at "p") (by tm_at "p") (by tm_at "p")
theorem ac_setA (w e d : Int) : ActsOk (.tup [.str 28, .int w, sig e, ctlA d]) 1 [.tup [.str 47, sig e], ctlA d, .tup [.str 28, .int w, .none]] [] [] := by
  intro W n ns a f f0 f1 A O K σ Q hn ha hf h0 h1 n1 n2 n3 n4 n5 n6 lA lO lK h
  obtain ⟨n, rfl⟩ : ∃ j, n = j + 1 := ex_add (by exact hn)
  refine enter ?_
  refine app1 (by tm_at "l") (by tm_at "w") ?_; refine app1 (by tm_at "l") (by tm_at "w") ?_; refine app1 (by tm_at "l") (by tm_at "w") ?_
  exact h _ (by tm_at "f") (by tm_at "p") (by tm_at "p") (by tm_at "p")
theorem ac_nba0 (e : Int) : ActsOk (.tup [.str 29, .int 7, sig e, .none]) 1 [(Row.nba0 e).av] [] [] := by
  intro W n ns a f f0 f1 A O K σ Q hn ha hf h0 h1 n1 n2 n3 n4 n5 n6 lA lO lK h
  obtain ⟨n, rfl⟩ : ∃ j, n = j + 1 := ex_add (by exact hn)
  refine enter ?_
  refine app1 (by tm_at "l") (by tm_at "w") ?_
  exact h _ (by tm_at "f") (by tm_at "p") (by tm_at "p") (by tm_at "p")
theorem ac_nba1 (e d : Int) : ActsOk (.tup [.str 29, .int 7, sig e, ctlD d]) 1 [(Row.nba1 e d).av] [] [] := by
  intro W n ns a f f0 f1 A O K σ Q hn ha hf h0 h1 n1 n2 n3 n4 n5 n6 lA lO lK h
  obtain ⟨n, rfl⟩ : ∃ j, n = j + 1 := ex_add (by exact hn)
  refine enter ?_
  refine app1 (by tm_at "l") (by tm_at "w") ?_
  exact h _ (by tm_at "f") (by tm_at "p") (by tm_at "p") (by tm_at "p")
theorem ac_trig (b : Bool) (e : Int) : ActsOk (Row.trig b e).av 1 [(Row.trig b e).av] [] [] := by
  cases b
  · intro W n ns a f f0 f1 A O K σ Q hn ha hf h0 h1 n1 n2 n3 n4 n5 n6 lA lO lK h
    obtain ⟨n, rfl⟩ : ∃ j, n = j + 1 := ex_add (by exact hn)
    refine enter ?_
    refine app1 (by tm_at "l") (by tm_at "w") ?_
    exact h _ (by tm_at "f") (by tm_at "p") (by tm_at "p") (by tm_at "p")
  · intro W n ns a f f0 f1 A O K σ Q hn ha hf h0 h1 n1 n2 n3 n4 n5 n6 lA lO lK h
    obtain ⟨n, rfl⟩ : ∃ j, n = j + 1 := ex_add (by exact hn)
    refine enter ?_
    refine app1 (by tm_at "l") (by tm_at "w") ?_
    exact h _ (by tm_at "f") (by tm_at "p") (by tm_at "p") (by tm_at "p")
theorem ac_call (e : Int) : ActsOk (Row.call e).av 1 [(Row.call e).av] [] [] := by
  intro W n ns a f f0 f1 A O K σ Q hn ha hf h0 h1 n1 n2 n3 n4 n5 n6 lA lO lK h
  obtain ⟨n, rfl⟩ : ∃ j, n = j + 1 := ex_add (by exact hn)
  refine enter ?_
  refine app1 (by tm_at "l") (by tm_at "w") ?_
  exact h _ (by tm_at "f") (by tm_at "p") (by tm_at "p") (by tm_at "p")
theorem ac_sys (e : Int) : ActsOk (Row.sys e).av 1 [(Row.sys e).av] [] [] := by
  intro W n ns a f f0 f1 A O K σ Q hn ha hf h0 h1 n1 n2 n3 n4 n5 n6 lA lO lK h
  obtain ⟨n, rfl⟩ : ∃ j, n = j + 1 := ex_add (by exact hn)
  refine enter ?_
  refine app1 (by tm_at "l") (by tm_at "w") ?_
  exact h _ (by tm_at "f") (by tm_at "p") (by tm_at "p") (by tm_at "p")
-- P8
section
open PySem
theorem seqAt_mid {pre post : List AV} {x : AV} : seqAt (pre ++ x :: post) (pre.length : Int) = some x := by
  unfold seqAt
  rw [if_pos (by omega)]
  simp
theorem set_mid {pre post : List AV} {x y : AV} : (pre ++ x :: post).set pre.length y = pre ++ y :: post := by simp
section
variable {W n : Nat} {ns : List Int} {σ : Store} {m c : Nat} {k : Int} {pre post : List AV} {Q : AV → Store → Prop}
theorem c_aim_jump {ad : Int} (hA : ad = (pre.length : Int)) {x : AV} (hm : σ[m]? = some (mkObj k c)) (hc : σ[c]? = some (.list (pre ++ .tup [.str 14, x] :: post)))
    (h : ∀ σ', Fm [m, c] σ σ' → σ'[m]? = some (mkObj k c) → σ'[c]? = some (.list (pre ++ .tup [.str 14, .int (pre.length + post.length + 1)] :: post)) → Q .none σ') : Meth (run W ns (n + 2)) .aim m [.int ad] σ σ Q := by
  subst hA
  have hs := seqAt_mid (pre := pre) (post := post) (x := .tup [.str 14, x])
  have hne : c ≠ m := fun e => by subst e; rw [hm] at hc; cases hc
  refine methE (by assumption) ?_
  refine gO (by tm_at "l") ?_; refine x_list (by tm_at "l") (by tm_at "s") ?_; refine q_sliceTm (by first | assumption | (simp; done) | fail) ?_
  refine c_here hm hc ?_
  refine And.intro (by tm_at "w") ?_; refine gO (by tm_at "l") ?_; refine y_list (by tm_at "l") (by tm_at "w") ?_
  refine h _ (by tm_at "f") (by tm_at "l") (get_congr (by tm_at "l") ?_)
  simp [Int.add_comm, Int.add_left_comm, Int.add_assoc]
theorem c_aim_unless {ad : Int} (hA : ad = (pre.length : Int)) {a x : AV} (hm : σ[m]? = some (mkObj k c)) (hc : σ[c]? = some (.list (pre ++ .tup [.str 19, a, x] :: post)))
    (h : ∀ σ', Fm [m, c] σ σ' → σ'[m]? = some (mkObj k c) → σ'[c]? = some (.list (pre ++ .tup [.str 19, a, .int (pre.length + post.length + 1)] :: post)) → Q .none σ') : Meth (run W ns (n + 2)) .aim m [.int ad] σ σ Q := by
  subst hA
  have hs := seqAt_mid (pre := pre) (post := post) (x := .tup [.str 19, a, x])
  have hne : c ≠ m := fun e => by subst e; rw [hm] at hc; cases hc
  refine methE (by assumption) ?_
  refine gO (by tm_at "l") ?_; refine x_list (by tm_at "l") (by tm_at "s") ?_; refine q_sliceTm (by first | assumption | (simp; done) | fail) ?_
  refine c_here hm hc ?_
  refine And.intro (by tm_at "w") ?_; refine gO (by tm_at "l") ?_; refine y_list (by tm_at "l") (by tm_at "w") ?_
  refine h _ (by tm_at "f") (by tm_at "l") (get_congr (by tm_at "l") ?_)
  simp [Int.add_comm, Int.add_left_comm, Int.add_assoc]
theorem c_aim_again {ad : Int} (hA : ad = (pre.length : Int)) {a x : AV} (hm : σ[m]? = some (mkObj k c)) (hc : σ[c]? = some (.list (pre ++ .tup [.str 20, a, x] :: post)))
    (h : ∀ σ', Fm [m, c] σ σ' → σ'[m]? = some (mkObj k c) → σ'[c]? = some (.list (pre ++ .tup [.str 20, a, .int (pre.length + post.length + 1)] :: post)) → Q .none σ') : Meth (run W ns (n + 2)) .aim m [.int ad] σ σ Q := by
  subst hA
  have hs := seqAt_mid (pre := pre) (post := post) (x := .tup [.str 20, a, x])
  have hne : c ≠ m := fun e => by subst e; rw [hm] at hc; cases hc
  refine methE (by assumption) ?_
  refine gO (by tm_at "l") ?_; refine x_list (by tm_at "l") (by tm_at "s") ?_; refine q_sliceTm (by first | assumption | (simp; done) | fail) ?_
  refine c_here hm hc ?_
  refine And.intro (by tm_at "w") ?_; refine gO (by tm_at "l") ?_; refine y_list (by tm_at "l") (by tm_at "w") ?_
  refine h _ (by tm_at "f") (by tm_at "l") (get_congr (by tm_at "l") ?_)
  simp [Int.add_comm, Int.add_left_comm, Int.add_assoc]
theorem c_aim_match {ad : Int} (hA : ad = (pre.length : Int)) {a b d x : AV} (hm : σ[m]? = some (mkObj k c)) (hc : σ[c]? = some (.list (pre ++ .tup [.str 17, a, b, d, x] :: post)))
    (h : ∀ σ', Fm [m, c] σ σ' → σ'[m]? = some (mkObj k c) → σ'[c]? = some (.list (pre ++ .tup [.str 17, a, b, d, .int (pre.length + post.length + 1)] :: post)) → Q .none σ') : Meth (run W ns (n + 2)) .aim m [.int ad] σ σ Q := by
  subst hA
  have hs := seqAt_mid (pre := pre) (post := post) (x := .tup [.str 17, a, b, d, x])
  have hne : c ≠ m := fun e => by subst e; rw [hm] at hc; cases hc
  refine methE (by assumption) ?_
  refine gO (by tm_at "l") ?_; refine x_list (by tm_at "l") (by tm_at "s") ?_; refine q_sliceTm (by first | assumption | (simp; done) | fail) ?_
  refine c_here hm hc ?_
  refine And.intro (by tm_at "w") ?_; refine gO (by tm_at "l") ?_; refine y_list (by tm_at "l") (by tm_at "w") ?_
  refine h _ (by tm_at "f") (by tm_at "l") (get_congr (by tm_at "l") ?_)
  simp [Int.add_comm, Int.add_left_comm, Int.add_assoc]
theorem c_aim_enter {ad : Int} (hA : ad = (pre.length : Int)) {a x : AV} (hm : σ[m]? = some (mkObj k c)) (hc : σ[c]? = some (.list (pre ++ .tup [.str 21, a, x] :: post)))
    (h : ∀ σ', Fm [m, c] σ σ' → σ'[m]? = some (mkObj k c) → σ'[c]? = some (.list (pre ++ .tup [.str 21, a, .int (pre.length + post.length + 1)] :: post)) → Q .none σ') : Meth (run W ns (n + 2)) .aim m [.int ad] σ σ Q := by
  subst hA
  have hs := seqAt_mid (pre := pre) (post := post) (x := .tup [.str 21, a, x])
  have hne : c ≠ m := fun e => by subst e; rw [hm] at hc; cases hc
  refine methE (by assumption) ?_
  refine gO (by tm_at "l") ?_; refine x_list (by tm_at "l") (by tm_at "s") ?_
  refine c_here hm hc ?_
  refine gO (by tm_at "l") ?_; refine y_list (by tm_at "l") (by tm_at "w") ?_
  refine h _ (by tm_at "f") (by tm_at "l") (get_congr (by tm_at "l") ?_)
  simp [Int.add_comm, Int.add_left_comm, Int.add_assoc]
end
theorem mk_if1 {a : AV} {d la na : Nat} {Ra : Nat → Nat → List Row} (e : Int) (Ma : MakeOk a d la na Ra) :
    MakeOk (.tup [.str 36, sig e, a, .none]) (d + 4) (la + 1) na (fun p k => .unless e (p + la + 1 : Nat) :: Ra (p + 1) k) := by
  refine ⟨fun p k => by simp [Ma.1], fun W n ns m c k l σ Q hn hm hc hl h => ?_⟩
  obtain ⟨n, rfl⟩ : ∃ j, n = j + 4 := ex_add (by exact (lin [_, _] [.le (.a (.v 0) (.n 4)) (.v 1)] (.n 4) (.v 1) (.refl true) hn))
  refine methE (by assumption) ?_
  skip
  refine methE (by assumption) ?_
  skip
  refine c_emit hm hc (by tm_at "w") fun σ1 F1 hm1 hc1 => ?_
  skip
  refine Ma.2 W _ ns m c k _ σ1 _ (by exact (lin [_, _] [.le (.a (.v 0) (.n 4)) (.a (.v 1) (.n 4))] (.v 0) (.a (.v 1) (.n 2)) (.refl true) hn)) hm1 hc1 (by simp; exact (lin [_, _] [.le (.a (.v 0) (.a (.v 1) (.n 1))) (.n 1000000)] (.a (.a (.v 0) (.n 1)) (.v 1)) (.n 1000000) (.refl true) hl)) fun σ2 F2 hm2 hc2 => ?_
  skip
  have hc2' := get_congr hc2 (show _ = l ++ .tup [.str 19, sig e, .int (-1)] :: (Ra (l.length + 1) k).map Row.av by simp)
  refine c_aim_unless rfl hm2 hc2' fun σ3 F3 hm3 hc3 => ?_
  skip
  refine h σ3 ((F1.trans F2).trans F3) hm3 (get_congr hc3 ?_)
  simp [Ma.1]
end
-- P9
section
set_option maxHeartbeats 400000
open PySem
theorem mk_if2 {a b : AV} {d da la na lb nb : Nat} {Ra Rb : Nat → Nat → List Row} (e : Int) (Ma : MakeOk a d la na Ra) (Mb : MakeOk b da lb nb Rb) (hd : da ≤ d) (hb : b ≠ .none) :
    MakeOk (.tup [.str 36, sig e, a, b]) (d + 4) (la + lb + 2) (na + nb) (fun p k => .unless e (p + la + 2 : Nat) :: (Ra (p + 1) k ++ .jump (p + la + lb + 2 : Nat) :: Rb (p + la + 2) (k + na))) := by
  refine ⟨fun p k => by simp [Ma.1, Mb.1]; exact (Nat.le_antisymm (lin [_, _] [] (.a (.v 0) (.a (.v 1) (.n 1))) (.a (.a (.v 0) (.v 1)) (.n 1)) (.refl true) ) (lin [_, _] [] (.a (.a (.v 0) (.v 1)) (.n 1)) (.a (.v 0) (.a (.v 1) (.n 1))) (.refl true) )), fun W n ns m c k l σ Q hn hm hc hl h => ?_⟩
  obtain ⟨n, rfl⟩ : ∃ j, n = j + 4 := ex_add (by exact (lin [_, _] [.le (.a (.v 0) (.n 4)) (.v 1)] (.n 4) (.v 1) (.refl true) hn))
  refine methE (by assumption) ?_
  skip
  refine methE (by assumption) ?_
  skip
  refine c_emit hm hc (by tm_at "w") fun σ1 F1 hm1 hc1 => ?_
  skip
  refine Ma.2 W _ ns m c k _ σ1 _ (by exact (lin [_, _] [.le (.a (.v 0) (.n 4)) (.a (.v 1) (.n 4))] (.v 0) (.a (.v 1) (.n 2)) (.refl true) hn)) hm1 hc1 (by simp; exact (lin [_, _, _] [.le (.a (.v 0) (.a (.a (.v 1) (.v 2)) (.n 2))) (.n 1000000)] (.a (.a (.v 0) (.n 1)) (.v 1)) (.n 1000000) (.refl true) hl)) fun σ2 F2 hm2 hc2 => ?_
  refine nil_f (by assumption) ?_
  refine c_emit hm2 hc2 (by simp [Ma.1, lim]; exact (linl [_, _, _] [.le (.a (.v 0) (.a (.a (.v 1) (.v 2)) (.n 2))) (.n 1000000)] (.a (.v 0) (.a (.v 1) (.n 1))) (.n 1048576) (.refl true) hl)) fun σ3 F3 hm3 hc3 => ?_
  skip
  have hc3' := get_congr hc3 (show _ = l ++ .tup [.str 19, sig e, .int (-1)] :: ((Ra (l.length + 1) k).map Row.av ++ [.tup [.str 14, .int (-1)]]) by simp)
  refine c_aim_unless rfl hm3 hc3' fun σ4 F4 hm4 hc4 => ?_
  skip
  refine Mb.2 W _ ns m c _ _ σ4 _ (by exact (lin [_, _, _] [.le (.v 0) (.v 1), .le (.a (.v 1) (.n 4)) (.a (.v 2) (.n 4))] (.v 0) (.a (.v 2) (.n 2)) (.refl true) hd hn)) hm4 hc4 (by simp [Ma.1]; exact (lin [_, _, _] [.le (.a (.v 0) (.a (.a (.v 1) (.v 2)) (.n 2))) (.n 1000000)] (.a (.a (.v 0) (.a (.a (.v 1) (.n 1)) (.n 1))) (.v 2)) (.n 1000000) (.refl true) hl)) fun σ5 F5 hm5 hc5 => ?_
  skip
  have hc5' := get_congr hc5 (show _ = (l ++ [.tup [.str 19, sig e, .int (l.length + (la + 1) + 1)]] ++ (Ra (l.length + 1) k).map Row.av) ++ .tup [.str 14, .int (-1)] :: (Rb (l.length + la + 2) (k + na)).map Row.av by
    simp [Ma.1, show l.length + (la + 1 + 1) = l.length + la + 2 by exact (Nat.le_antisymm (lin [_, _] [] (.a (.v 0) (.a (.a (.v 1) (.n 1)) (.n 1))) (.a (.a (.v 0) (.v 1)) (.n 2)) (.refl true) ) (lin [_, _] [] (.a (.a (.v 0) (.v 1)) (.n 2)) (.a (.v 0) (.a (.a (.v 1) (.n 1)) (.n 1))) (.refl true) ))])
  refine c_aim_jump (pre := l ++ [.tup [.str 19, sig e, .int (l.length + (la + 1) + 1)]] ++ (Ra (l.length + 1) k).map Row.av) (by simp) hm5 hc5' fun σ6 F6 hm6 hc6 => ?_
  skip
  refine h σ6 (((((F1.trans F2).trans F3).trans F4).trans F5).trans F6) (by rw [hm6, Nat.add_assoc]) (get_congr hc6 ?_)
  simp [Ma.1, Mb.1]
  omega
end
-- P10
section
set_option maxHeartbeats 400000
open PySem
noncomputable def loopR (lb ls nb : Nat) (Rb Rs : Nat → Nat → List Row) (e : Int) (p k : Nat) : List Row := .unless e (p + lb + ls + 2 : Nat) :: (Rb (p + 1) k ++ (Rs (p + 1 + lb) (k + nb) ++ [.jump (p : Nat)]))
theorem c_loop {W n : Nat} {ns : List Int} {σ : Store} {b s : AV} {d ds lb nb ls nst : Nat} {Rb Rs : Nat → Nat → List Row} (e : Int) (Mb : MakeOk b d lb nb Rb) (Ms : MakeOk s ds ls nst Rs) {m c k : Nat} {l : List AV} {Q : AV → Store → Prop} (hn : d + 2 ≤ n) (hn2 : ds ≤ n)
    (hm : σ[m]? = some (mkObj k c)) (hc : σ[c]? = some (.list l)) (hl : l.length + (lb + ls + 2) ≤ 1000000)
    (h : ∀ σ', Fm [m, c] σ σ' → σ'[m]? = some (mkObj ((k + nb + nst : Nat) : Int) c) → σ'[c]? = some (.list (l ++ (loopR lb ls nb Rb Rs e l.length k).map Row.av)) → Q .none σ') : Meth (run (W + 2) ns (n + 1)) .loop m [sig e, b, s] σ σ Q := by
  obtain ⟨n, rfl⟩ : ∃ j, n = j + 2 := ex_add (by exact (lin [_, _] [.le (.a (.v 0) (.n 2)) (.v 1)] (.n 2) (.v 1) (.refl true) hn))
  refine methE (by assumption) ?_
  skip
  refine c_here hm hc ?_
  skip
  refine c_emit hm hc (by tm_at "w") fun σ1 F1 hm1 hc1 => ?_
  skip
  refine Mb.2 W _ ns m c k _ σ1 _ (by exact (lin [_, _] [.le (.a (.v 0) (.n 2)) (.a (.v 1) (.n 2))] (.v 0) (.a (.v 1) (.n 2)) (.refl true) hn)) hm1 hc1 (by simp; exact (lin [_, _, _] [.le (.a (.v 0) (.a (.a (.v 1) (.v 2)) (.n 2))) (.n 1000000)] (.a (.a (.v 0) (.n 1)) (.v 1)) (.n 1000000) (.refl true) hl)) fun σ2 F2 hm2 hc2 => ?_
  skip
  refine Ms.2 W _ ns m c _ _ σ2 _ (by exact hn2) hm2 hc2 (by simp [Mb.1]; exact (lin [_, _, _] [.le (.a (.v 0) (.a (.a (.v 1) (.v 2)) (.n 2))) (.n 1000000)] (.a (.a (.v 0) (.a (.v 1) (.n 1))) (.v 2)) (.n 1000000) (.refl true) hl)) fun σ3 F3 hm3 hc3 => ?_
  skip
  refine c_emit hm3 hc3 (by simp [Mb.1, Ms.1, lim]; exact (linl [_, _, _] [.le (.a (.v 0) (.a (.a (.v 1) (.v 2)) (.n 2))) (.n 1000000)] (.a (.v 0) (.a (.a (.v 1) (.v 2)) (.n 1))) (.n 1048576) (.refl true) hl)) fun σ4 F4 hm4 hc4 => ?_
  skip
  have hc4' := get_congr hc4 (show _ = l ++ .tup [.str 19, sig e, .int (-1)] :: ((Rb (l.length + 1) k).map Row.av ++ ((Rs (l.length + 1 + lb) (k + nb)).map Row.av ++ [.tup [.str 14, .int l.length]])) by
    simp [Mb.1, show l.length + (lb + 1) = l.length + 1 + lb by exact (Nat.le_antisymm (lin [_, _] [] (.a (.v 0) (.a (.v 1) (.n 1))) (.a (.a (.v 0) (.n 1)) (.v 1)) (.refl true) ) (lin [_, _] [] (.a (.a (.v 0) (.n 1)) (.v 1)) (.a (.v 0) (.a (.v 1) (.n 1))) (.refl true) ))])
  refine c_aim_unless rfl hm4 hc4' fun σ5 F5 hm5 hc5 => ?_
  skip
  refine h σ5 ((((F1.trans F2).trans F3).trans F4).trans F5) hm5 (get_congr hc5 ?_)
  simp [Mb.1, Ms.1, loopR]
  omega
theorem mk_while {b : AV} {d lb nb : Nat} {Rb : Nat → Nat → List Row} (e : Int) (Mb : MakeOk b d lb nb Rb) : MakeOk (.tup [.str 40, sig e, b]) (d + 5) (lb + 2) nb (loopR lb 0 nb Rb (fun zz zz => []) e) := by
  refine ⟨fun p k => by simp [Mb.1, loopR], fun W n ns m c k l σ Q hn hm hc hl h => ?_⟩
  obtain ⟨n, rfl⟩ : ∃ j, n = j + 5 := ex_add (by exact (lin [_, _] [.le (.a (.v 0) (.n 5)) (.v 1)] (.n 5) (.v 1) (.refl true) hn))
  refine methE (by assumption) ?_
  skip
  refine methE (by assumption) ?_
  skip
  refine c_loop e Mb mk_none (by exact (lin [_, _] [.le (.a (.v 0) (.n 5)) (.a (.v 1) (.n 5))] (.a (.v 0) (.n 2)) (.a (.v 1) (.n 2)) (.refl true) hn)) (by exact (lin [_] [] (.n 1) (.a (.v 0) (.n 2)) (.refl true) )) hm hc (by exact (lin [_, _] [.le (.a (.v 0) (.a (.v 1) (.n 2))) (.n 1000000)] (.a (.v 0) (.a (.a (.v 1) (.n 0)) (.n 2))) (.n 1000000) (.refl true) hl)) fun σ1 F1 hm1 hc1 => ?_
  skip
  exact h σ1 F1 hm1 hc1
theorem mk_for {p1 b p2 : AV} {d d1 d2 l1 n1 lb nb l2 n2 : Nat} {R1 Rb R2 : Nat → Nat → List Row} (e : Int) (M1 : MakeOk p1 d1 l1 n1 R1) (M2 : MakeOk p2 d2 l2 n2 R2) (Mb : MakeOk b d lb nb Rb) (h1 : d1 ≤ d + 4) (h2 : d2 ≤ d + 1) :
    MakeOk (.tup [.str 39, p1, sig e, p2, b]) (d + 6) (l1 + lb + l2 + 2) (n1 + nb + n2) (fun p k => R1 p k ++ loopR lb l2 nb Rb R2 e (p + l1) (k + n1)) := by
  refine ⟨fun p k => by simp [Mb.1, M1.1, M2.1, loopR]; exact (Nat.le_antisymm (lin [_, _, _] [] (.a (.v 0) (.a (.a (.v 1) (.a (.v 2) (.n 1))) (.n 1))) (.a (.a (.a (.v 0) (.v 1)) (.v 2)) (.n 2)) (.refl true) ) (lin [_, _, _] [] (.a (.a (.a (.v 0) (.v 1)) (.v 2)) (.n 2)) (.a (.v 0) (.a (.a (.v 1) (.a (.v 2) (.n 1))) (.n 1))) (.refl true) )), fun W n ns m c k l σ Q hn hm hc hl h => ?_⟩
  obtain ⟨n, rfl⟩ : ∃ j, n = j + 6 := ex_add (by exact (lin [_, _] [.le (.a (.v 0) (.n 6)) (.v 1)] (.n 6) (.v 1) (.refl true) hn))
  refine methE (by assumption) ?_
  skip
  refine methE (by assumption) ?_
  skip
  refine M1.2 W _ ns m c k _ σ _ (by exact (lin [_, _, _] [.le (.v 0) (.a (.v 1) (.n 4)), .le (.a (.v 1) (.n 6)) (.a (.v 2) (.n 6))] (.v 0) (.a (.v 2) (.n 4)) (.refl true) h1 hn)) hm hc (by exact (lin [_, _, _, _] [.le (.a (.v 0) (.a (.a (.a (.v 1) (.v 2)) (.v 3)) (.n 2))) (.n 1000000)] (.a (.v 0) (.v 1)) (.n 1000000) (.refl true) hl)) fun σ1 F1 hm1 hc1 => ?_
  skip
  refine c_loop e Mb M2 (by exact (lin [_, _] [.le (.a (.v 0) (.n 6)) (.a (.v 1) (.n 6))] (.a (.v 0) (.n 2)) (.a (.v 1) (.n 3)) (.refl true) hn)) (by exact (lin [_, _, _] [.le (.v 0) (.a (.v 1) (.n 1)), .le (.a (.v 1) (.n 6)) (.a (.v 2) (.n 6))] (.v 0) (.a (.v 2) (.n 3)) (.refl true) h2 hn)) hm1 hc1 (by simp [M1.1]; exact (lin [_, _, _, _] [.le (.a (.v 0) (.a (.a (.a (.v 1) (.v 2)) (.v 3)) (.n 2))) (.n 1000000)] (.a (.a (.v 0) (.v 1)) (.a (.a (.v 2) (.v 3)) (.n 2))) (.n 1000000) (.refl true) hl)) fun σ2 F2 hm2 hc2 => ?_
  skip
  refine h σ2 (F1.trans F2) (by rw [hm2]; congr 3; exact (Nat.le_antisymm (lin [_, _, _, _] [] (.a (.a (.a (.v 0) (.v 1)) (.v 2)) (.v 3)) (.a (.v 0) (.a (.a (.v 1) (.v 2)) (.v 3))) (.refl true) ) (lin [_, _, _, _] [] (.a (.v 0) (.a (.a (.v 1) (.v 2)) (.v 3))) (.a (.a (.a (.v 0) (.v 1)) (.v 2)) (.v 3)) (.refl true) ))) (get_congr hc2 ?_)
  simp [M1.1]
theorem mk_forever {b : AV} {d lb nb : Nat} {Rb : Nat → Nat → List Row} (Mb : MakeOk b d lb nb Rb) : MakeOk (.tup [.str 42, b]) (d + 5) (lb + 1) nb (fun p k => Rb p k ++ [.jump (p : Nat)]) := by
  refine ⟨fun p k => by simp [Mb.1], fun W n ns m c k l σ Q hn hm hc hl h => ?_⟩
  obtain ⟨n, rfl⟩ : ∃ j, n = j + 5 := ex_add (by exact (lin [_, _] [.le (.a (.v 0) (.n 5)) (.v 1)] (.n 5) (.v 1) (.refl true) hn))
  refine methE (by assumption) ?_
  skip
  refine methE (by assumption) ?_
  skip
  refine c_here hm hc ?_
  skip
  refine Mb.2 W _ ns m c k _ σ _ (by exact (lin [_, _] [.le (.a (.v 0) (.n 5)) (.a (.v 1) (.n 5))] (.v 0) (.a (.v 1) (.n 3)) (.refl true) hn)) hm hc (by exact (lin [_, _] [.le (.a (.v 0) (.a (.v 1) (.n 1))) (.n 1000000)] (.a (.v 0) (.v 1)) (.n 1000000) (.refl true) hl)) fun σ1 F1 hm1 hc1 => ?_
  skip
  refine c_emit hm1 hc1 (by simp [Mb.1, lim]; exact (linl [_, _] [.le (.a (.v 0) (.a (.v 1) (.n 1))) (.n 1000000)] (.a (.v 0) (.v 1)) (.n 1048576) (.refl true) hl)) fun σ2 F2 hm2 hc2 => ?_
  skip
  refine h σ2 (F1.trans F2) hm2 (get_congr hc2 ?_)
  simp
theorem mk_repeat {b : AV} {d lb nb : Nat} {Rb : Nat → Nat → List Row} (e : Int) (Mb : MakeOk b d lb nb Rb) :
    MakeOk (.tup [.str 41, sig e, .bool true, b]) (d + 5) (lb + 3) (nb + 1) (fun p k => .times k e :: .again k (p + lb + 3 : Nat) :: (Rb (p + 2) (k + 1) ++ [.jump (p + 1 : Nat)])) := by
  refine ⟨fun p k => by simp [Mb.1], fun W n ns m c k l σ Q hn hm hc hl h => ?_⟩
  obtain ⟨n, rfl⟩ : ∃ j, n = j + 5 := ex_add (by exact (lin [_, _] [.le (.a (.v 0) (.n 5)) (.v 1)] (.n 5) (.v 1) (.refl true) hn))
  refine methE (by assumption) ?_
  skip
  refine methE (by assumption) ?_
  skip
  refine methE (by assumption) ?_
  skip
  refine c_new_slot hm hc fun σ0 F0 hm0 hc0 => ?_
  skip
  refine c_emit hm0 hc0 (by tm_at "w") fun σ1 F1 hm1 hc1 => ?_
  skip
  refine c_emit hm1 hc1 (by tm_at "w") fun σ2 F2 hm2 hc2 => ?_
  skip
  refine Mb.2 W _ ns m c (k + 1) _ σ2 _ (by exact (lin [_, _] [.le (.a (.v 0) (.n 5)) (.a (.v 1) (.n 5))] (.v 0) (.a (.v 1) (.n 2)) (.refl true) hn)) hm2 hc2 (by simp; exact (lin [_, _] [.le (.a (.v 0) (.a (.v 1) (.n 3))) (.n 1000000)] (.a (.a (.v 0) (.n 2)) (.v 1)) (.n 1000000) (.refl true) hl)) fun σ3 F3 hm3 hc3 => ?_
  skip
  refine c_emit hm3 hc3 (by simp [Mb.1, lim]; exact (linl [_, _] [.le (.a (.v 0) (.a (.v 1) (.n 3))) (.n 1000000)] (.a (.v 0) (.a (.a (.v 1) (.n 1)) (.n 1))) (.n 1048576) (.refl true) hl)) fun σ4 F4 hm4 hc4 => ?_
  skip
  have hc4' := get_congr hc4 (show _ = (l ++ [.tup [.str 51, .int k, sig e, .bool true]]) ++ .tup [.str 20, .int k, .int (-1)] :: ((Rb (l.length + 2) (k + 1)).map Row.av ++ [.tup [.str 14, .int (l ++ [AV.tup [.str 51, .int k, sig e, .bool true]]).length]]) by simp)
  refine c_aim_again rfl hm4 hc4' fun σ5 F5 hm5 hc5 => ?_
  skip
  refine h σ5 (((((F0.trans F1).trans F2).trans F3).trans F4).trans F5) (by rw [hm5]; congr 3; exact (Nat.le_antisymm (lin [_, _] [] (.a (.a (.v 0) (.n 1)) (.v 1)) (.a (.v 0) (.a (.v 1) (.n 1))) (.refl true) ) (lin [_, _] [] (.a (.v 0) (.a (.v 1) (.n 1))) (.a (.a (.v 0) (.n 1)) (.v 1)) (.refl true) ))) (get_congr hc5 ?_)
  simp [Mb.1]
  omega
theorem mk_delay {b : AV} {d lb nb : Nat} {Rb : Nat → Nat → List Row} (e : Int) (Mb : MakeOk b d lb nb Rb) : MakeOk (.tup [.str 30, sig e, b]) (d + 5) (lb + 1) nb (fun p k => .delay e :: Rb (p + 1) k) := by
  refine ⟨fun p k => by simp [Mb.1], fun W n ns m c k l σ Q hn hm hc hl h => ?_⟩
  obtain ⟨n, rfl⟩ : ∃ j, n = j + 5 := ex_add (by exact (lin [_, _] [.le (.a (.v 0) (.n 5)) (.v 1)] (.n 5) (.v 1) (.refl true) hn))
  refine methE (by assumption) ?_
  skip
  refine methE (by assumption) ?_
  skip
  refine c_emit hm hc (by tm_at "w") fun σ1 F1 hm1 hc1 => ?_
  skip
  refine Mb.2 W _ ns m c k _ σ1 _ (by exact (lin [_, _] [.le (.a (.v 0) (.n 5)) (.a (.v 1) (.n 5))] (.v 0) (.a (.v 1) (.n 3)) (.refl true) hn)) hm1 hc1 (by simp; exact (lin [_, _] [.le (.a (.v 0) (.a (.v 1) (.n 1))) (.n 1000000)] (.a (.a (.v 0) (.n 1)) (.v 1)) (.n 1000000) (.refl true) hl)) fun σ2 F2 hm2 hc2 => ?_
  skip
  refine h σ2 (F1.trans F2) hm2 (get_congr hc2 ?_)
  simp
theorem mk_await {b : AV} {d lb nb : Nat} {Rb : Nat → Nat → List Row} (e : Int) (Mb : MakeOk b d lb nb Rb) : MakeOk (.tup [.str 31, anyEv e, b]) (d + 5) (lb + 1) nb (fun p k => .awaitA e :: Rb (p + 1) k) := by
  refine ⟨fun p k => by simp [Mb.1], fun W n ns m c k l σ Q hn hm hc hl h => ?_⟩
  obtain ⟨n, rfl⟩ : ∃ j, n = j + 5 := ex_add (by exact (lin [_, _] [.le (.a (.v 0) (.n 5)) (.v 1)] (.n 5) (.v 1) (.refl true) hn))
  refine methE (by assumption) ?_
  skip
  refine methE (by assumption) ?_
  skip
  refine c_emit hm hc (by tm_at "w") fun σ1 F1 hm1 hc1 => ?_
  skip
  refine Mb.2 W _ ns m c k _ σ1 _ (by exact (lin [_, _] [.le (.a (.v 0) (.n 5)) (.a (.v 1) (.n 5))] (.v 0) (.a (.v 1) (.n 3)) (.refl true) hn)) hm1 hc1 (by simp; exact (lin [_, _] [.le (.a (.v 0) (.a (.v 1) (.n 1))) (.n 1000000)] (.a (.a (.v 0) (.n 1)) (.v 1)) (.n 1000000) (.refl true) hl)) fun σ2 F2 hm2 hc2 => ?_
  skip
  refine h σ2 (F1.trans F2) hm2 (get_congr hc2 ?_)
  simp
end
-- P11
section
set_option maxHeartbeats 400000
open PySem
section
variable {W n : Nat} {ns : List Int} {σ : Store}
theorem c_children {e : Int} {Q : AV → Store → Prop} (h : Q (.tup []) σ) : W2 (run W ns (n + 1) .children [sig e] σ) Q := by
  refine enter ?_
  skip
  exact h
theorem c_subs {e : Int} {Q : AV → Store → Prop} (h : ∀ q σ', New σ (.list [sig e]) q σ' → Q (.cell q) σ') : W2 (run (W + 2) ns (n + 2) .subexpressions [sig e] σ) Q := by
  refine enter ?_
  refine newL fun vq1 vs1 vF1 vl1 vg1 => ?_; refine newL fun vq2 vs2 vF2 vl2 vg2 => ?_; refine gL (by tm_at "l") ?_; refine gL (by tm_at "l") ?_; refine gL (by tm_at "l") ?_; refine ⟨_, by tm_at "s", ?_⟩; refine app1 (by tm_at "l") (by tm_at "w") ?_
  refine c_children ?_
  refine And.intro rfl ?_; refine gL (by tm_at "l") ?_
  exact h _ _ ⟨by tm_at "f", by tm_at "g", by tm_at "l"⟩
theorem c_expr_reads {e : Int} {Q : AV → Store → Prop} (h : ∀ q σ', New σ (.list [.int e]) q σ' → Q (.cell q) σ') : W2 (run (W + 2) ns (n + 3) .expr_reads [sig e] σ) Q := by
  refine enter ?_
  refine newL fun vq1 vs1 vF1 vl1 vg1 => ?_
  refine c_subs fun q σ' hN => ?_
  have hF := hN.fm
  have hle := hN.le
  have hg := hN.get
  clear hN
  refine gL (by tm_at "l") ?_; refine And.intro (by tm_at "l") ?_; refine y_dict (by tm_at "l") (by tm_at "w") ?_; refine And.intro (by tm_at "l") ?_
  refine q_sortedD (d := [(e, .bool true)]) (by tm_at "l") (by simp) (newL fun q2 σ2 F2 l2 g2 => h _ _ ⟨?_, ?_, g2⟩)
  · exact fm_trN F2 (by tm_at "f")
  · exact Nat.le_trans (by tm_at "e") l2
end
theorem mk_wait {b : AV} {d lb nb : Nat} {Rb : Nat → Nat → List Row} (e : Int) (Mb : MakeOk b d lb nb Rb) : MakeOk (.tup [.str 46, sig e, b]) (d + 6) (lb + 1) nb (fun p k => .waitfor e :: Rb (p + 1) k) := by
  refine ⟨fun p k => by simp [Mb.1], fun W n ns m c k l σ Q hn hm hc hl h => ?_⟩
  obtain ⟨n, rfl⟩ : ∃ j, n = j + 6 := ex_add (by exact (lin [_, _] [.le (.a (.v 0) (.n 6)) (.v 1)] (.n 6) (.v 1) (.refl true) hn))
  refine methE (by assumption) ?_
  skip
  refine methE (by assumption) ?_
  skip
  refine c_expr_reads fun q σ' hN => ?_
  have hF := hN.fm
  have hle := hN.le
  have hg := hN.get
  clear hN
  refine gL (by tm_at "l") ?_
  refine meth2 hm (c_emit (hF.get hm (by tm_at "o")) (hF.get hc (by tm_at "o")) (by tm_at "w") fun σ1 F1 hm1 hc1 => ?_)
  skip
  refine Mb.2 W _ ns m c k _ σ1 _ (by exact (lin [_, _] [.le (.a (.v 0) (.n 6)) (.a (.v 1) (.n 6))] (.v 0) (.a (.v 1) (.n 4)) (.refl true) hn)) hm1 hc1 (by simp; exact (lin [_, _] [.le (.a (.v 0) (.a (.v 1) (.n 1))) (.n 1000000)] (.a (.a (.v 0) (.n 1)) (.v 1)) (.n 1000000) (.refl true) hl)) fun σ2 F2 hm2 hc2 => ?_
  skip
  refine h σ2 ((hF.nil.trans F1).trans F2) hm2 (get_congr hc2 ?_)
  simp
end
-- P12
section
set_option maxHeartbeats 400000
open PySem
inductive Pl where
  | set0 (w e : Int) | setD (w e d : Int) | setA (w e d : Int) | nba0 (e : Int) | nba1 (e d : Int) | trig (b : Bool) (e : Int) | call (e : Int) | sys (e : Int)
@[simp] noncomputable def Pl.av : Pl → AV
  | .set0 w e => .tup [.str 28, .int w, sig e, .none]
  | .setD w e d => .tup [.str 28, .int w, sig e, ctlD d]
  | .setA w e d => .tup [.str 28, .int w, sig e, ctlA d]
  | .nba0 e => .tup [.str 29, .int 7, sig e, .none]
  | .nba1 e d => .tup [.str 29, .int 7, sig e, ctlD d]
  | .trig b e => (Row.trig b e).av
  | .call e => (Row.call e).av
  | .sys e => (Row.sys e).av
@[simp] noncomputable def Pl.len : Pl → Nat
  | .setD .. | .setA .. => 3
  | _ => 1
@[simp] noncomputable def Pl.nsl : Pl → Nat
  | .setD .. | .setA .. => 1
  | _ => 0
@[simp] noncomputable def Pl.rows : Pl → Nat → Nat → List Row
  | .set0 w e, _, _ => [.setE w e]
  | .setD w e d, _, k => [.save k e, .delay d, .setL w k]
  | .setA w e d, _, k => [.save k e, .awaitP d, .setL w k]
  | .nba0 e, _, _ => [.nba0 e]
  | .nba1 e d, _, _ => [.nba1 e d]
  | .trig b e, _, _ => [.trig b e]
  | .call e, _, _ => [.call e]
  | .sys e, _, _ => [.sys e]
@[simp] noncomputable def Pl.acts : Pl → List AV
  | .set0 w e => [(Row.setE w e).av]
  | .setD w e d => [.tup [.str 47, sig e], ctlD d, .tup [.str 28, .int w, .none]]
  | .setA w e d => [.tup [.str 47, sig e], ctlA d, .tup [.str 28, .int w, .none]]
  | .nba0 e => [(Row.nba0 e).av]
  | .nba1 e d => [(Row.nba1 e d).av]
  | .trig b e => [(Row.trig b e).av]
  | .call e => [(Row.call e).av]
  | .sys e => [(Row.sys e).av]
theorem MakeOk.mono {s : AV} {d d' len nsl : Nat} {R : Nat → Nat → List Row} (h : MakeOk s d len nsl R) (hd : d ≤ d') : MakeOk s d' len nsl R :=
  ⟨h.1, fun W n ns m c k l σ Q hn hm hc hl q => h.2 W n ns m c k l σ Q (Nat.le_trans hd hn) hm hc hl q⟩
theorem mk_pl (p : Pl) : MakeOk p.av 4 p.len p.nsl p.rows := by
  cases p
  · exact (mk_set0 _ _).mono (by exact (lin [] [] (.n 3) (.n 4) (.refl true) ))
  · exact mk_setD _ _ _
  · exact mk_setA _ _ _
  · exact (mk_nba0 _).mono (by exact (lin [] [] (.n 3) (.n 4) (.refl true) ))
  · exact (mk_nba1 _ _).mono (by exact (lin [] [] (.n 3) (.n 4) (.refl true) ))
  · exact (mk_trig _ _).mono (by exact (lin [] [] (.n 2) (.n 4) (.refl true) ))
  · exact (mk_call _).mono (by exact (lin [] [] (.n 2) (.n 4) (.refl true) ))
  · exact (mk_sys _).mono (by exact (lin [] [] (.n 2) (.n 4) (.refl true) ))
theorem ac_pl (p : Pl) : ActsOk p.av 1 p.acts [] [] := by
  cases p
  · exact ac_set0 _ _
  · exact ac_setD _ _ _
  · exact ac_setA _ _ _
  · exact ac_nba0 _
  · exact ac_nba1 _ _
  · exact ac_trig _ _
  · exact ac_call _
  · exact ac_sys _
mutual
inductive S where
  | none | pl (p : Pl) | ite (e : Int) (a b : S)
  | caseA (v : Option Int) (a c : S) | caseB (v : Option Int) (d a c : S) | caseC (v : Option Int) (a d : S)
  | for_ (p : Pl) (e : Int) (q : Pl) (b : S) | while_ (e : Int) (b : S) | repeat_ (e : Int) (b : S) | forever (b : S)
  | block (l : SL) (c : Option Nat) | fork (l : SL) (c : Option Nat)
  | delay (e : Int) (b : S) | wait (e : Int) (b : S) | await (e : Int) (b : S)
inductive SL where
  | nil | cons (s : S) (r : SL)
end
noncomputable def scI : Option Nat → Int
  | none => -1
  | some c => c
noncomputable def valAV : Option Int → AV
  | none => cst 5
  | some e => sig e
mutual
noncomputable def S.av : S → AV
  | .none => .none
  | .pl p => p.av
  | .ite e a b => .tup [.str 36, sig e, a.av, b.av]
  | .caseA v a c => .tup [.str 37, .str 38, valAV v, .tup [.tup [.tup [cst 1, cst 2], a.av], .tup [.tup [cst 3], c.av]]]
  | .caseB v d a c => .tup [.str 37, .str 38, valAV v, .tup [.tup [.none, d.av], .tup [.tup [cst 1, cst 2], a.av], .tup [.tup [cst 3], c.av]]]
  | .caseC v a d => .tup [.str 37, .str 38, valAV v, .tup [.tup [.tup [cst 1, cst 2], a.av], .tup [.none, d.av]]]
  | .for_ p e q b => .tup [.str 39, p.av, sig e, q.av, b.av]
  | .while_ e b => .tup [.str 40, sig e, b.av]
  | .repeat_ e b => .tup [.str 41, sig e, .bool true, b.av]
  | .forever b => .tup [.str 42, b.av]
  | .block l c => .tup [.str 43, .tup l.avs, .int (scI c)]
  | .fork l c => .tup [.str 18, .tup l.avs, .int (scI c)]
  | .delay e b => .tup [.str 30, sig e, b.av]
  | .wait e b => .tup [.str 46, sig e, b.av]
  | .await e b => .tup [.str 31, anyEv e, b.av]
noncomputable def SL.avs : SL → List AV
  | .nil => []
  | .cons s r => s.av :: r.avs
end
noncomputable def S.isNone : S → Bool
  | .none => true
  | _ => false
theorem Pl.av_ne (p : Pl) : p.av ≠ .none := by cases p <;> (intro h; cases h)
theorem S.av_ne {s : S} (h : s.isNone = false) : s.av ≠ .none := by
  cases s
  case none => simp [S.isNone] at h
  case pl p => simpa [S.av] using p.av_ne
  all_goals (simp [S.av])
theorem S.isNone_eq {s : S} (h : s.isNone = true) : s = .none := by
  cases s <;> first | rfl | (simp [S.isNone] at h)
noncomputable def scLen (b : Nat) : Option Nat → Nat
  | none => 0
  | some _ => b
noncomputable def vLen : Option Int → Nat
  | none => 0
  | some _ => 1
mutual
noncomputable def S.len : S → Nat
  | .none => 0
  | .pl p => p.len
  | .ite _ a b => if b.isNone then a.len + 1 else a.len + b.len + 2
  | .caseA v a c => vLen v + (a.len + c.len + 6)
  | .caseB v d a c => vLen v + (d.len + a.len + c.len + 6)
  | .caseC v a d => vLen v + (d.len + a.len + 4)
  | .for_ p _ q b => p.len + b.len + q.len + 2
  | .while_ _ b => b.len + 2
  | .repeat_ _ b => b.len + 3
  | .forever b => b.len + 1
  | .block l c => l.len + scLen 2 c
  | .fork l c => l.flen + 3 + scLen 2 c
  | .delay _ b => b.len + 1
  | .wait _ b => b.len + 1
  | .await _ b => b.len + 1
noncomputable def SL.len : SL → Nat
  | .nil => 0
  | .cons s r => s.len + r.len
noncomputable def SL.flen : SL → Nat
  | .nil => 0
  | .cons s r => s.len + 1 + r.flen
end
mutual
noncomputable def S.nsl : S → Nat
  | .none => 0
  | .pl p => p.nsl
  | .ite _ a b => a.nsl + b.nsl
  | .caseA v a c => vLen v + (a.nsl + c.nsl)
  | .caseB v d a c => vLen v + (d.nsl + a.nsl + c.nsl)
  | .caseC v a d => vLen v + (d.nsl + a.nsl)
  | .for_ p _ q b => p.nsl + b.nsl + q.nsl
  | .while_ _ b => b.nsl
  | .repeat_ _ b => b.nsl + 1
  | .forever b => b.nsl
  | .block l _ => l.nsl
  | .fork l _ => l.nsl
  | .delay _ b => b.nsl
  | .wait _ b => b.nsl
  | .await _ b => b.nsl
noncomputable def SL.nsl : SL → Nat
  | .nil => 0
  | .cons s r => s.nsl + r.nsl
end
mutual
noncomputable def S.dep : S → Nat
  | .none => 1
  | .pl _ => 4
  | .ite _ a b => max a.dep b.dep + 6
  | .caseA _ a c => max a.dep c.dep + 6
  | .caseB _ d a c => max d.dep (max a.dep c.dep) + 6
  | .caseC _ a d => max a.dep d.dep + 6
  | .for_ _ _ _ b => max 4 b.dep + 6
  | .while_ _ b => b.dep + 6
  | .repeat_ _ b => b.dep + 6
  | .forever b => b.dep + 6
  | .block l _ => l.dep + 6
  | .fork l _ => l.dep + 6
  | .delay _ b => b.dep + 6
  | .wait _ b => b.dep + 6
  | .await _ b => b.dep + 6
noncomputable def SL.dep : SL → Nat
  | .nil => 0
  | .cons s r => max s.dep r.dep
end
noncomputable def SL.starts : SL → Nat → List Int
  | .nil, _ => []
  | .cons s r, q => (q : Int) :: r.starts (q + s.len + 1)
noncomputable def matR (v : Option Int) (k : Nat) (lab : Int) (t : Nat) : Row := match v with
  | none => .matC lab t
  | some _ => .matS k lab t
noncomputable def saveR (v : Option Int) (k : Nat) : List Row := match v with
  | none => []
  | some e => [.save k e]
noncomputable def case3 (M : Int → Nat → Row) (ld la lc nd na : Nat) (Rd Ra Rc : Nat → Nat → List Row) (p k : Nat) : List Row :=
  M 1 (p + ld + 4) :: M 2 (p + ld + 4) :: M 3 (p + ld + la + 5) :: (Rd (p + 3) k ++ .jump (p + ld + la + lc + 6 : Nat) :: (Ra (p + ld + 4) (k + nd) ++ .jump (p + ld + la + lc + 6 : Nat) :: (Rc (p + ld + la + 5) (k + nd + na) ++ [.jump (p + ld + la + lc + 6 : Nat)])))
noncomputable def case2 (M : Int → Nat → Row) (ld la nd : Nat) (Rd Ra : Nat → Nat → List Row) (p k : Nat) : List Row :=
  M 1 (p + ld + 3) :: M 2 (p + ld + 3) :: (Rd (p + 2) k ++ .jump (p + ld + la + 4 : Nat) :: (Ra (p + ld + 3) (k + nd) ++ [.jump (p + ld + la + 4 : Nat)]))
noncomputable def scR (c : Option Nat) (t : Nat) : List Row := match c with
  | none => []
  | some c => [.enter c t]
noncomputable def scL (c : Option Nat) : List Row := match c with
  | none => []
  | some c => [.leave c]
mutual
noncomputable def S.rows : S → Nat → Nat → List Row
  | .none, _, _ => []
  | .pl q, p, k => q.rows p k
  | .ite e a b, p, k => if b.isNone then .unless e (p + a.len + 1 : Nat) :: a.rows (p + 1) k
      else .unless e (p + a.len + 2 : Nat) :: (a.rows (p + 1) k ++ .jump (p + a.len + b.len + 2 : Nat) :: b.rows (p + a.len + 2) (k + a.nsl))
  | .caseA v a c, p, k => saveR v k ++ case3 (matR v k) 0 a.len c.len 0 a.nsl (fun zz zz => []) a.rows c.rows (p + vLen v) (k + vLen v)
  | .caseB v d a c, p, k => saveR v k ++ case3 (matR v k) d.len a.len c.len d.nsl a.nsl d.rows a.rows c.rows (p + vLen v) (k + vLen v)
  | .caseC v a d, p, k => saveR v k ++ case2 (matR v k) d.len a.len d.nsl d.rows a.rows (p + vLen v) (k + vLen v)
  | .for_ s e t b, p, k => s.rows p k ++ loopR b.len t.len b.nsl b.rows t.rows e (p + s.len) (k + s.nsl)
  | .while_ e b, p, k => loopR b.len 0 b.nsl b.rows (fun zz zz => []) e p k
  | .repeat_ e b, p, k => .times k e :: .again k (p + b.len + 3 : Nat) :: (b.rows (p + 2) (k + 1) ++ [.jump (p + 1 : Nat)])
  | .forever b, p, k => b.rows p k ++ [.jump (p : Nat)]
  | .block l c, p, k => scR c (p + l.len + 2) ++ (l.rows (p + scLen 1 c) k ++ scL c)
  | .fork l c, p, k => scR c (p + l.flen + 5) ++ .fork (l.starts (p + 3 + scLen 2 c)) (scI c) :: .join :: (scL c ++ .jump (p + l.flen + 3 + scLen 2 c : Nat) :: l.frows (p + 3 + scLen 2 c) k)
  | .delay e b, p, k => .delay e :: b.rows (p + 1) k
  | .wait e b, p, k => .waitfor e :: b.rows (p + 1) k
  | .await e b, p, k => .awaitA e :: b.rows (p + 1) k
noncomputable def SL.rows : SL → Nat → Nat → List Row
  | .nil, _, _ => []
  | .cons s r, p, k => s.rows p k ++ r.rows (p + s.len) (k + s.nsl)
noncomputable def SL.frows : SL → Nat → Nat → List Row
  | .nil, _, _ => []
  | .cons s r, p, k => s.rows p k ++ .fin :: r.frows (p + s.len + 1) (k + s.nsl)
end
noncomputable def MkS (s : S) : Prop := MakeOk s.av s.dep s.len s.nsl s.rows
noncomputable def MkL : SL → Prop
  | .nil => True
  | .cons s r => MkS s ∧ MkL r
end
-- P13
section
set_option maxHeartbeats 400000
open PySem
section
variable {W n : Nat} {ns : List Int} {σ : Store} {m c : Nat} {k : Int} {l : List AV} {Q : AV → Store → Prop}
theorem c_scoped_n (hm : σ[m]? = some (mkObj k c)) (h : Q (.int (-1)) σ) : Meth (run W ns (n + 1)) .scoped m [.int (-1)] σ σ Q := by
  refine methE (by assumption) ?_
  skip
  exact h
theorem c_scoped_s {s : Nat} (hm : σ[m]? = some (mkObj k c)) (hc : σ[c]? = some (.list l)) (hl : l.length < lim)
    (h : ∀ σ', Fm [m, c] σ σ' → σ'[m]? = some (mkObj k c) → σ'[c]? = some (.list (l ++ [.tup [.str 21, .int s, .int (-1)]])) → Q (.int l.length) σ') : Meth (run W ns (n + 2)) .scoped m [.int s] σ σ Q := by
  refine methE (by assumption) ?_
  skip
  refine c_emit hm hc hl fun σ' F hm' hc' => ?_
  skip
  exact h σ' F hm' hc'
theorem c_close_n {x : AV} (hm : σ[m]? = some (mkObj k c)) (h : Q .none σ) : Meth (run W ns (n + 1)) .close m [.int (-1), x] σ σ Q := by
  refine methE (by assumption) ?_
  skip
  exact h
theorem c_close_s {s : Nat} {pre post : List AV} {x : AV} {ad : Int} (hA : ad = (pre.length : Int)) (hm : σ[m]? = some (mkObj k c)) (hc : σ[c]? = some (.list (pre ++ .tup [.str 21, .int s, x] :: post))) (hl : (pre ++ .tup [.str 21, .int s, x] :: post).length < lim)
    (h : ∀ σ', Fm [m, c] σ σ' → σ'[m]? = some (mkObj k c) → σ'[c]? = some (.list (pre ++ .tup [.str 21, .int s, .int (pre.length + post.length + 2)] :: (post ++ [.tup [.str 22, .int s]]))) → Q .none σ') :
    Meth (run W ns (n + 3)) .close m [.int ad, .int s] σ σ Q := by
  refine methE (by assumption) ?_
  refine if_d (fun vh => ?_) (fun vh => ?_); rotate_left; rotate_left
  · refine c_emit hm hc hl fun σ1 F1 hm1 hc1 => ?_
    skip
    have hc1' := get_congr hc1 (show _ = pre ++ .tup [.str 21, .int s, x] :: (post ++ [.tup [.str 22, .int s]]) by simp)
    refine c_aim_enter hA hm1 hc1' fun σ2 F2 hm2 hc2 => ?_
    skip
    refine h σ2 (F1.trans F2) hm2 (get_congr hc2 ?_)
    simp
    omega
  · exact absurd (by omega) vh
end
theorem loop_make {W n : Nat} {ns : List Int} {m c : Nat} {it : List AV} {step : AV → Vars → Store → (Fl → Vars → Store → Prop) → Prop} (R : Option AV → Vars) {Q : Fl → Vars → Store → Prop}
    (hs : ∀ v x k σ Q', σ[m]? = some (mkObj k c) → Meth (run (W + 2) ns n) .make m [v] σ σ (fun zz σ' => Q' .next (R (some v)) σ') → step v (R x) σ Q') :
    ∀ (ls : SL) (k : Nat) (l : List AV) (x : Option AV) (σ : Store), MkL ls → ls.dep ≤ n → σ[m]? = some (mkObj k c) → σ[c]? = some (.list l) → l.length + ls.len ≤ 1000000 →
      (∀ x' σ', Fm [m, c] σ σ' → σ'[m]? = some (mkObj ((k + ls.nsl : Nat) : Int) c) → σ'[c]? = some (.list (l ++ (ls.rows l.length k).map Row.av)) → Q .next (R x') σ') →
      wpLoop step it none ls.avs (R x) σ Q
  | .nil, k, l, x, σ, _, _, hm, hc, _, h => (h x σ (Fm.refl _ _) (by simpa [SL.nsl] using hm) (by simpa [SL.rows] using hc))
  | .cons s r, k, l, x, σ, hM, hd, hm, hc, hl, h => by
    simp only [SL.avs]
    simp only [SL.dep] at hd
    simp only [SL.len] at hl
    refine (hs _ _ _ _ _ hm (hM.1.2 W n ns m c k l σ _ (by exact (Nat.le_trans (Nat.le_max_left _ _) hd)) hm hc (by exact (lin [_, _, _] [.le (.a (.v 0) (.a (.v 1) (.v 2))) (.n 1000000)] (.a (.v 0) (.v 1)) (.n 1000000) (.refl true) hl)) fun σ1 F1 hm1 hc1 => ?_))
    refine (loop_make R hs r (k + s.nsl) _ _ σ1 hM.2 (by exact (Nat.le_trans (Nat.le_max_right _ _) hd)) hm1 hc1 (by simp [hM.1.1]; exact (lin [_, _, _] [.le (.a (.v 0) (.a (.v 1) (.v 2))) (.n 1000000)] (.a (.a (.v 0) (.v 1)) (.v 2)) (.n 1000000) (.refl true) hl)) fun x' σ2 F2 hm2 hc2 => ?_)
    refine h x' σ2 (F1.trans F2) (by rw [hm2]; simp [SL.nsl, Nat.add_assoc]) (get_congr hc2 ?_)
    simp [SL.rows, hM.1.1]
theorem rows_len : ∀ (ls : SL) (p k : Nat), MkL ls → (ls.rows p k).length = ls.len
  | .nil, _, _, _ => rfl
  | .cons s r, p, k, h => by simp [SL.rows, SL.len, h.1.1, rows_len r _ _ h.2]
theorem mk_block (ls : SL) (c : Option Nat) (hM : MkL ls) : MkS (.block ls c) := by
  unfold MkS
  simp only [S.av, S.dep, S.len, S.nsl]
  refine ⟨fun p k => by cases c <;> simp [S.rows, rows_len _ _ _ hM, scR, scL, scLen], fun W n ns m c' k l σ Q hn hm hc hl h => ?_⟩
  obtain ⟨n, rfl⟩ : ∃ j, n = j + 6 := ex_add (by exact (lin [_, _] [.le (.a (.v 0) (.n 6)) (.v 1)] (.n 6) (.v 1) (.refl true) hn))
  refine methE (by assumption) ?_
  skip
  refine methE (by assumption) ?_
  skip
  cases c with
  | none =>
    refine c_scoped_n (by tm_at "l") ?_
    skip
    refine loop_make (W := W) (ns := ns) (m := m) (c := c') (n := n + 4) (fun x => [some (.cell m), some (.tup [.str 43, .tup ls.avs, .int (scI none)]), some (.int (-1)), x]) ?_ ls k l none σ hM (by exact (lin [_, _] [.le (.a (.v 0) (.n 6)) (.a (.v 1) (.n 6))] (.v 0) (.a (.v 1) (.n 4)) (.refl true) hn)) hm hc (by exact (lin [_, _, _] [.le (.a (.v 0) (.a (.v 1) (.v 2))) (.n 1000000)] (.a (.v 0) (.v 1)) (.n 1000000) (.refl true) hl)) fun x' σ1 F1 hm1 hc1 => ?_
    · intro v x k σ Q' hm h
      skip
      refine h.mono fun zz σ1 q => ?_
      skip
      exact q
    · skip
      refine c_close_n (by tm_at "l") ?_
      skip
      exact h σ1 F1 hm1 (get_congr hc1 (by simp [S.rows, scR, scL, scLen]))
  | some s =>
    simp only [scLen] at hl
    refine c_scoped_s hm hc (by tm_at "w") fun σ1 F1 hm1 hc1 => ?_
    skip
    refine loop_make (W := W) (ns := ns) (m := m) (c := c') (n := n + 4) (fun x => [some (.cell m), some (.tup [.str 43, .tup ls.avs, .int (scI (some s))]), some (.int l.length), x]) ?_ ls k _ none σ1 hM (by exact (lin [_, _] [.le (.a (.v 0) (.n 6)) (.a (.v 1) (.n 6))] (.v 0) (.a (.v 1) (.n 4)) (.refl true) hn)) hm1 hc1 (by simp; exact (lin [_, _] [.le (.a (.v 0) (.a (.v 1) (.n 2))) (.n 1000000)] (.a (.a (.v 0) (.n 1)) (.v 1)) (.n 1000000) (.refl true) hl)) fun x' σ2 F2 hm2 hc2 => ?_
    · intro v x k σ Q' hm h
      skip
      refine h.mono fun zz σ1 q => ?_
      skip
      exact q
    · skip
      have hc2' := get_congr hc2 (show _ = l ++ .tup [.str 21, .int s, .int (-1)] :: (ls.rows (l.length + 1) k).map Row.av by simp)
      refine c_close_s rfl hm2 hc2' (by simp [lim, rows_len _ _ _ hM]; exact (linl [_, _] [.le (.a (.v 0) (.a (.v 1) (.n 2))) (.n 1000000)] (.a (.v 0) (.a (.v 1) (.n 1))) (.n 1048576) (.refl true) hl)) fun σ3 F3 hm3 hc3 => ?_
      skip
      refine h σ3 ((F1.trans F2).trans F3) hm3 (get_congr hc3 ?_)
      simp [S.rows, scR, scL, scLen, rows_len _ _ _ hM]
end
-- P14
section
set_option maxHeartbeats 1000000
open PySem
theorem loop_fork {W n : Nat} {ns : List Int} {m c t : Nat} {it : List AV} {step : AV → Vars → Store → (Fl → Vars → Store → Prop) → Prop} (R : Option AV → Vars) {Q : Fl → Vars → Store → Prop} (tm : t ≠ m) (tc : t ≠ c)
    (hs : ∀ v x k l T σ Q', σ[m]? = some (mkObj k c) → σ[c]? = some (.list l) → σ[t]? = some (.list T) → T.length < lim →
      (∀ σ1, Fm [t] σ σ1 → σ1[t]? = some (.list (T ++ [.int l.length])) → Meth (run (W + 2) ns (n + 1)) .make m [v] σ1 σ1 fun zz σ2 => (∃ k2, σ2[m]? = some (mkObj k2 c)) ∧ Meth (run (W + 2) ns (n + 1)) .emit m [.tup [.str 15]] σ2 σ2 fun zz σ3 => Q' .next (R (some v)) σ3) → step v (R x) σ Q') :
    ∀ (ls : SL) (k : Nat) (l T : List AV) (x : Option AV) (σ : Store), MkL ls → ls.dep ≤ n + 1 → σ[m]? = some (mkObj k c) → σ[c]? = some (.list l) → σ[t]? = some (.list T) → T.length + ls.flen ≤ 1000000 → l.length + ls.flen ≤ 1000000 →
      (∀ x' σ', Fm [m, c, t] σ σ' → σ'[m]? = some (mkObj ((k + ls.nsl : Nat) : Int) c) → σ'[c]? = some (.list (l ++ (ls.frows l.length k).map Row.av)) → σ'[t]? = some (.list (T ++ (ls.starts l.length).map .int)) → Q .next (R x') σ') →
      wpLoop step it none ls.avs (R x) σ Q
  | .nil, k, l, T, x, σ, _, _, hm, hc, ht, _, _, h => (h x σ (Fm.refl _ _) (by simpa [SL.nsl] using hm) (by simpa [SL.frows] using hc) (by simpa [SL.starts] using ht))
  | .cons s r, k, l, T, x, σ, hM, hd, hm, hc, ht, hT, hl, h => by
    simp only [SL.avs]
    simp only [SL.dep] at hd
    simp only [SL.flen] at hl hT
    have hcm : c ≠ m := fun e => by subst e; rw [hm] at hc; cases hc
    refine (hs _ _ _ _ _ _ _ hm hc ht (by simp [lim]; exact (linl [_, _, _] [.le (.a (.v 0) (.a (.a (.v 1) (.n 1)) (.v 2))) (.n 1000000)] (.v 0) (.n 1048576) (.refl true) hT)) fun σ1 F1 ht1 => ?_)
    refine hM.1.2 W (n + 1) ns m c k l σ1 _ (by exact (Nat.le_trans (Nat.le_max_left _ _) hd)) (F1.get hm (by simp; exact tm.symm)) (F1.get hc (by simp; exact tc.symm)) (by exact (lin [_, _, _] [.le (.a (.v 0) (.a (.a (.v 1) (.n 1)) (.v 2))) (.n 1000000)] (.a (.v 0) (.v 1)) (.n 1000000) (.refl true) hl)) fun σ2 F2 hm2 hc2 => ?_
    refine ⟨⟨_, hm2⟩, c_emit hm2 hc2 (by simp [lim, hM.1.1]; exact (linl [_, _, _] [.le (.a (.v 0) (.a (.a (.v 1) (.n 1)) (.v 2))) (.n 1000000)] (.a (.v 0) (.v 1)) (.n 1048576) (.refl true) hl)) fun σ3 F3 hm3 hc3 => ?_⟩
    have ht3 := F3.get (F2.get ht1 (by simp; exact ⟨tm, tc⟩)) (by simp; exact ⟨tm, tc⟩)
    refine (loop_fork R tm tc hs r (k + s.nsl) _ _ _ σ3 hM.2 (by exact (Nat.le_trans (Nat.le_max_right _ _) hd)) hm3 hc3 ht3 (by simp; exact (lin [_, _, _] [.le (.a (.v 0) (.a (.a (.v 1) (.n 1)) (.v 2))) (.n 1000000)] (.a (.a (.v 0) (.n 1)) (.v 2)) (.n 1000000) (.refl true) hT)) (by simp [hM.1.1]; exact (lin [_, _, _] [.le (.a (.v 0) (.a (.a (.v 1) (.n 1)) (.v 2))) (.n 1000000)] (.a (.a (.v 0) (.a (.v 1) (.n 1))) (.v 2)) (.n 1000000) (.refl true) hl)) fun x' σ4 F4 hm4 hc4 ht4 => ?_)
    refine h x' σ4 ((((F1.mono (by simp)).trans (F2.mono (by simp))).trans (F3.mono (by simp))).trans F4) (by rw [hm4]; simp [SL.nsl, Nat.add_assoc]) (get_congr hc4 ?_) (get_congr ht4 ?_)
    · simp [SL.frows, hM.1.1, Nat.add_assoc]
    · simp [SL.starts, hM.1.1, Nat.add_assoc]
theorem fm3 {σ s s' : Store} {a b t : Nat} (f : Fm [a, b] σ s) (g : Fm [a, b, t] s s') (h : σ.length ≤ t) : Fm [a, b] σ s' :=
  f.transNew g fun i hi => by
    simp only [List.mem_cons, List.not_mem_nil, or_false] at hi ⊢
    rcases hi with h1 | h1 | h1
    · exact .inl (.inl h1)
    · exact .inl (.inr h1)
    · exact .inr (h1 ▸ h)
theorem frows_len : ∀ (ls : SL) (p k : Nat), MkL ls → (ls.frows p k).length = ls.flen
  | .nil, _, _, _ => rfl
  | .cons s r, p, k, h => by simp [SL.frows, SL.flen, h.1.1, frows_len r _ _ h.2]; exact (Nat.le_antisymm (lin [_, _] [] (.a (.v 0) (.a (.v 1) (.n 1))) (.a (.a (.v 0) (.n 1)) (.v 1)) (.refl true) ) (lin [_, _] [] (.a (.a (.v 0) (.n 1)) (.v 1)) (.a (.v 0) (.a (.v 1) (.n 1))) (.refl true) ))
theorem starts_len : ∀ (ls : SL) (p : Nat), (ls.starts p).length ≤ ls.flen
  | .nil, _ => by simp [SL.starts]
  | .cons s r, p => by simp [SL.starts, SL.flen]; have := starts_len r (p + s.len + 1); exact (lin [_, _, _] [.le (.v 0) (.v 1)] (.a (.v 0) (.n 1)) (.a (.a (.v 2) (.n 1)) (.v 1)) (.refl true) this)
theorem mk_fork (ls : SL) (c : Option Nat) (hM : MkL ls) : MkS (.fork ls c) := by
  unfold MkS
  simp only [S.av, S.dep, S.len, S.nsl]
  refine ⟨fun p k => by cases c <;> simp [S.rows, frows_len _ _ _ hM, scR, scL, scLen], fun W n ns m c' k l σ Q hn hm hc hl h => ?_⟩
  obtain ⟨n, rfl⟩ : ∃ j, n = j + 6 := ex_add (by exact (lin [_, _] [.le (.a (.v 0) (.n 6)) (.v 1)] (.n 6) (.v 1) (.refl true) hn))
  have hcm : c' ≠ m := fun e => by subst e; rw [hm] at hc; cases hc
  refine methE (by assumption) ?_
  skip
  refine methE (by assumption) ?_
  skip
  cases c with
  | none =>
    simp only [scLen] at hl
    refine c_scoped_n (by tm_at "l") ?_
    skip
    refine c_emit hm hc (by tm_at "w") fun σ1 F1 hm1 hc1 => ?_
    skip
    refine c_emit hm1 hc1 (by tm_at "w") fun σ2 F2 hm2 hc2 => ?_
    skip
    refine c_emit hm2 hc2 (by tm_at "w") fun σ3 F3 hm3 hc3 => ?_
    refine newL fun vq1 vs1 vF1 vl1 vg1 => ?_
    have tc : vq1 ≠ c' := by tm_at "n"
    have tm : vq1 ≠ m := by tm_at "n"
    refine loop_fork (W := W) (ns := ns) (n := n + 3) (m := m) (c := c') (t := vq1) (fun x => [some (.cell m), some (.tup [.str 18, .tup ls.avs, .int (scI none)]), some (.int (-1)), some (.int l.length), some (.int (l ++ [AV.tup [.str 18, .tup [], .int (scI none)]] ++ [AV.tup [.str 52]]).length), some (.cell vq1), x, none]) tm tc ?_ ls k _ _ none vs1 hM (by exact (lin [_, _] [.le (.a (.v 0) (.n 6)) (.a (.v 1) (.n 6))] (.v 0) (.a (.a (.v 1) (.n 3)) (.n 1)) (.refl true) hn)) (by tm_at "l") (by tm_at "l") vg1 (by simp; exact (lin [_, _] [.le (.a (.v 0) (.a (.a (.v 1) (.n 3)) (.n 0))) (.n 1000000)] (.v 1) (.n 1000000) (.refl true) hl)) (by simp; exact (lin [_, _] [.le (.a (.v 0) (.a (.a (.v 1) (.n 3)) (.n 0))) (.n 1000000)] (.a (.a (.v 0) (.n 3)) (.v 1)) (.n 1000000) (.refl true) hl)) fun x' σ4 F4 hm4 hc4 ht4 => ?_
    · intro v x k l T σ Q' hm hc ht hT h
      skip
      refine c_here hm hc ?_
      refine app1 (by tm_at "l") (by tm_at "w") ?_
      refine (h _ (by tm_at "f") (by tm_at "l")).mono fun zz σ2 q => ?_
      obtain ⟨⟨k2, hm2⟩, q⟩ := q
      skip
      refine q.mono fun zz σ3 q => ?_
      skip
      exact q
    · have hc4' := get_congr hc4 (show _ = l ++ .tup [.str 18, .tup [], .int (scI none)] :: (.tup [.str 52] :: .tup [.str 14, .int (-1)] :: (ls.frows (l.length + 3) k).map Row.av) by simp)
      refine gL (by tm_at "l") ?_; refine gO (by tm_at "l") ?_; refine y_list (by tm_at "l") (by tm_at "w") ?_
      refine c_aim_jump (pre := l ++ [.tup [.str 18, .tup ((ls.starts (l.length + 3)).map .int), .int (-1)], .tup [.str 52]]) (post := (ls.frows (l.length + 3) k).map Row.av) (x := .int (-1)) (by simp) (by tm_at "l") (get_congr (get_set_eq (by tm_at "t")) (by simp [scI])) fun σ5 F5 hm5 hc5 => ?_
      skip
      refine h σ5 ?_ hm5 (get_congr hc5 ?_)
      · exact ((fm3 (((F1.trans F2).trans F3).trans vF1.nil) F4 (by tm_at "g")).trans (Fm.set (by simp))).trans F5
      · simp [S.rows, scR, scL, scLen, frows_len _ _ _ hM, scI]
        omega
  | some s =>
    simp only [scLen] at hl
    refine c_scoped_s hm hc (by tm_at "w") fun σ0 F0 hm0 hc0 => ?_
    skip
    refine c_emit hm0 hc0 (by tm_at "w") fun σ1 F1 hm1 hc1 => ?_
    skip
    refine c_emit hm1 hc1 (by tm_at "w") fun σ2 F2 hm2 hc2 => ?_
    skip
    · refine c_emit hm2 hc2 (by tm_at "w") fun σ2' F2' hm2' hc2' => ?_
      skip
      refine c_emit hm2' hc2' (by tm_at "w") fun σ3 F3 hm3 hc3 => ?_
      refine newL fun vq1 vs1 vF1 vl1 vg1 => ?_
      have tc : vq1 ≠ c' := by tm_at "n"
      have tm : vq1 ≠ m := by tm_at "n"
      refine loop_fork (W := W) (ns := ns) (n := n + 3) (m := m) (c := c') (t := vq1) (fun x => [some (.cell m), some (.tup [.str 18, .tup ls.avs, .int (scI (some s))]), some (.int l.length), some (.int (l ++ [AV.tup [.str 21, .int s, .int (-1)]]).length), some (.int (l ++ [AV.tup [.str 21, .int s, .int (-1)]] ++ [AV.tup [.str 18, .tup [], .int (scI (some s))]] ++ [AV.tup [.str 52]] ++ [AV.tup [.str 22, .int (scI (some s))]]).length), some (.cell vq1), x, none]) tm tc ?_ ls k _ _ none vs1 hM (by exact (lin [_, _] [.le (.a (.v 0) (.n 6)) (.a (.v 1) (.n 6))] (.v 0) (.a (.a (.v 1) (.n 3)) (.n 1)) (.refl true) hn)) (by tm_at "l") (by tm_at "l") vg1 (by simp; exact (lin [_, _] [.le (.a (.v 0) (.a (.a (.v 1) (.n 3)) (.n 2))) (.n 1000000)] (.v 1) (.n 1000000) (.refl true) hl)) (by simp; exact (lin [_, _] [.le (.a (.v 0) (.a (.a (.v 1) (.n 3)) (.n 2))) (.n 1000000)] (.a (.a (.v 0) (.n 5)) (.v 1)) (.n 1000000) (.refl true) hl)) fun x' σ4 F4 hm4 hc4 ht4 => ?_
      · intro v x k l T σ Q' hm hc ht hT h
        skip
        refine c_here hm hc ?_
        refine app1 (by tm_at "l") (by tm_at "w") ?_
        refine (h _ (by tm_at "f") (by tm_at "l")).mono fun zz σ2 q => ?_
        obtain ⟨⟨k2, hm2⟩, q⟩ := q
        skip
        refine q.mono fun zz σ3 q => ?_
        skip
        exact q
      · have hc4' := get_congr hc4 (show _ = (l ++ [.tup [.str 21, .int s, .int (-1)]]) ++ .tup [.str 18, .tup [], .int (scI (some s))] :: (.tup [.str 52] :: .tup [.str 22, .int s] :: .tup [.str 14, .int (-1)] :: (ls.frows (l.length + 5) k).map Row.av) by simp [scI])
        refine gL (by tm_at "l") ?_; refine gO (by tm_at "l") ?_; refine y_list (by tm_at "l") (by tm_at "w") ?_
        · refine c_aim_jump (pre := l ++ [.tup [.str 21, .int s, .int (-1)], .tup [.str 18, .tup ((ls.starts (l.length + 5)).map .int), .int s], .tup [.str 52], .tup [.str 22, .int s]]) (post := (ls.frows (l.length + 5) k).map Row.av) (x := .int (-1)) (by simp) (by tm_at "l") (get_congr (get_set_eq (by tm_at "t")) ?_) fun σ5 F5 hm5 hc5 => ?_
          · simp [scI]
          skip
          · have hc5' := get_congr hc5 (show _ = l ++ .tup [.str 21, .int s, .int (-1)] :: (.tup [.str 18, .tup ((ls.starts (l.length + 5)).map .int), .int s] :: .tup [.str 52] :: .tup [.str 22, .int s] :: .tup [.str 14, .int (l.length + ls.flen + 5 : Nat)] :: (ls.frows (l.length + 5) k).map Row.av) by
              simp [frows_len _ _ _ hM]
              omega)
            refine c_aim_enter rfl hm5 hc5' fun σ6 F6 hm6 hc6 => ?_
            skip
            refine h σ6 ?_ hm6 (get_congr hc6 ?_)
            · exact (((fm3 (((((F0.trans F1).trans F2).trans F2').trans F3).trans vF1.nil) F4 (by tm_at "g")).trans (Fm.set (by simp))).trans F5).trans F6
            · simp [S.rows, scR, scL, scLen, frows_len _ _ _ hM, scI]
              omega
end
-- PC
section
set_option maxHeartbeats 1000000
open PySem
structure Cr (σ0 : Store) (m t : Nat) (l : List AV) (σ : Store) (k : Nat) (tl : List AV) (p r : Nat) : Prop where
  fm : Fm [m, t] σ0 σ
  hm : σ[m]? = some (mkObj k t)
  hc : σ[t]? = some (.list (l ++ tl))
  len : (l ++ tl).length = p
  cap : p + r ≤ 1000000
section
variable {σ0 σ : Store} {m t k p r n W : Nat} {l tl : List AV} {ns : List Int} {Q : AV → Store → Prop}
theorem Cr.start (hm : σ[m]? = some (mkObj k t)) (hc : σ[t]? = some (.list l)) (h : l.length + r ≤ 1000000) : Cr σ m t l σ k [] l.length r := ⟨Fm.refl _ _, hm, by rw [List.append_nil]; exact hc, by rw [List.append_nil], h⟩
theorem Cr.emit {row : AV} (X : Cr σ0 m t l σ k tl p (r + 1)) (h : ∀ σ', Fm [m, t] σ σ' → Cr σ0 m t l σ' k (tl ++ [row]) (p + 1) r → Q (.int p) σ') : Meth (run W ns (n + 1)) .emit m [row] σ σ Q := by
  have hl : (l ++ tl).length < lim := by rw [X.len]; exact Nat.lt_of_le_of_lt (Nat.le_trans (Nat.le_add_right _ _) X.cap) (by decide)
  refine c_emit X.hm X.hc hl fun σ' F hm hc => ?_
  rw [X.len]
  exact h σ' F ⟨X.fm.trans F, hm, (List.append_assoc ..) ▸ hc, by rw [← List.append_assoc, List.length_append, X.len]; rfl, by have := X.cap; exact (lin [_, _] [.le (.a (.v 0) (.a (.v 1) (.n 1))) (.n 1000000)] (.a (.a (.v 0) (.n 1)) (.v 1)) (.n 1000000) (.refl true) this)⟩
theorem Cr.slot (X : Cr σ0 m t l σ k tl p r) (h : ∀ σ', Fm [m, t] σ σ' → Cr σ0 m t l σ' (k + 1) tl p r → Q (.int k) σ') : Meth (run W ns (n + 1)) .new_slot m [] σ σ Q :=
  c_new_slot X.hm X.hc fun σ' F hm hc => h σ' F ⟨X.fm.trans F, hm, hc, X.len, X.cap⟩
theorem Cr.make {s : AV} {d len nsl : Nat} {R : Nat → Nat → List Row} (M : MakeOk s d len nsl R) (hd : d ≤ n) (X : Cr σ0 m t l σ k tl p (r + len)) (h : ∀ σ', Fm [m, t] σ σ' → Cr σ0 m t l σ' (k + nsl) (tl ++ (R p k).map Row.av) (p + len) r → Q .none σ') : Meth (run (W + 2) ns n) .make m [s] σ σ Q := by
  have hp := X.len
  subst hp
  refine M.2 W n ns m t k _ σ Q hd X.hm X.hc (by have := X.cap; exact (lin [_, _, _] [.le (.a (.v 0) (.a (.v 1) (.v 2))) (.n 1000000)] (.a (.v 0) (.v 2)) (.n 1000000) (.refl true) this)) fun σ' F hm hc => ?_
  exact h σ' F ⟨X.fm.trans F, hm, (List.append_assoc ..) ▸ hc, by rw [← List.append_assoc, List.length_append, List.length_map, M.1], by have := X.cap; exact (lin [_, _, _] [.le (.a (.v 0) (.a (.v 1) (.v 2))) (.n 1000000)] (.a (.a (.v 0) (.v 2)) (.v 1)) (.n 1000000) (.refl true) this)⟩
theorem Cr.aim_jump {x : AV} {pre post : List AV} {a : Nat} (X : Cr σ0 m t l σ k (pre ++ .tup [.str 14, x] :: post) p r) (ha : l.length + pre.length = a) (h : ∀ σ', Fm [m, t] σ σ' → Cr σ0 m t l σ' k (pre ++ .tup [.str 14, .int p] :: post) p r → Q .none σ') : Meth (run W ns (n + 2)) .aim m [.int a] σ σ Q := by
  have hl := X.len
  refine c_aim_jump (pre := l ++ pre) (post := post) (x := x) (by rw [List.length_append, ha]) X.hm (by rw [List.append_assoc]; exact X.hc) fun σ' F hm hc => ?_
  have e : ((l ++ pre).length : Int) + post.length + 1 = p := by rw [← hl]; simp; omega
  rw [e, List.append_assoc] at hc
  exact h σ' F ⟨X.fm.trans F, hm, hc, by rw [← hl]; simp, X.cap⟩
theorem Cr.aim_match {a b d x : AV} {pre post : List AV} {ad : Nat} (X : Cr σ0 m t l σ k (pre ++ .tup [.str 17, a, b, d, x] :: post) p r) (ha : l.length + pre.length = ad) (h : ∀ σ', Fm [m, t] σ σ' → Cr σ0 m t l σ' k (pre ++ .tup [.str 17, a, b, d, .int p] :: post) p r → Q .none σ') : Meth (run W ns (n + 2)) .aim m [.int ad] σ σ Q := by
  have hl := X.len
  refine c_aim_match (pre := l ++ pre) (post := post) (x := x) (by rw [List.length_append, ha]) X.hm (by rw [List.append_assoc]; exact X.hc) fun σ' F hm hc => ?_
  have e : ((l ++ pre).length : Int) + post.length + 1 = p := by rw [← hl]; simp; omega
  rw [e, List.append_assoc] at hc
  exact h σ' F ⟨X.fm.trans F, hm, hc, by rw [← hl]; simp, X.cap⟩
theorem Cr.to {tl' : List AV} (X : Cr σ0 m t l σ k tl p r) (e : tl = tl') : Cr σ0 m t l σ k tl' p r := e ▸ X
end
theorem Cr.grow {σ0 σ σ' : Store} {m t k p r : Nat} {l tl : List AV} (X : Cr σ0 m t l σ k tl p r) (F : Fm [] σ σ') : Cr σ0 m t l σ' k tl p r := ⟨X.fm.trans F.nil, F.get X.hm List.not_mem_nil, F.get X.hc List.not_mem_nil, X.len, X.cap⟩
theorem Cr.put {σ0 σ : Store} {m t k p r q : Nat} {l tl : List AV} {x : Cell} (X : Cr σ0 m t l σ k tl p r) (h1 : q ≠ m) (h2 : q ≠ t) (h3 : σ0.length ≤ q) : Cr σ0 m t l (σ.set q x) k tl p r := ⟨X.fm.setNew h3, get_set_ne X.hm h1, get_set_ne X.hc h2, X.len, X.cap⟩
noncomputable abbrev mv (v : AV) (lab t : Int) : AV := .tup [.str 17, .str 38, v, cst lab, .int t]
noncomputable abbrev jp (t : Int) : AV := .tup [.str 14, .int t]
theorem app5 {D A C : List AV} {x y z : AV} : ((((D ++ [x]) ++ A) ++ [y]) ++ C) ++ [z] = D ++ x :: (A ++ y :: (C ++ [z])) := by simp only [List.append_assoc, List.cons_append, List.nil_append]
theorem app3 {D A : List AV} {x y : AV} : ((D ++ [x]) ++ A) ++ [y] = D ++ x :: (A ++ [y]) := by simp only [List.append_assoc, List.cons_append, List.nil_append]
theorem app2' {D A B : List AV} {x : AV} : D ++ x :: (A ++ B) = (D ++ x :: A) ++ B := by simp only [List.append_assoc, List.cons_append]
theorem sel_H3 {W n : Nat} {ns : List Int} {m t : Nat} {a c dv : AV} {dd ld nd da la na dc lc nc : Nat} {Rd Ra Rc : Nat → Nat → List Row} (Md : MakeOk dv dd ld nd Rd) (Ma : MakeOk a da la na Ra) (Mc : MakeOk c dc lc nc Rc) (hd : dd ≤ n + 2) (ha : da ≤ n + 2) (hc : dc ≤ n + 2)
    {v s : AV} {x2 x3 x6 x7 x8 x9 : Option AV} {f p1 p2 k : Nat} {σ0 σ : Store} {l : List AV} {Q : Fl → Vars → Store → Prop} (n1 : f ≠ m) (n2 : f ≠ t) (n3 : p1 ≠ m) (n4 : p1 ≠ t) (n5 : p2 ≠ m) (n6 : p2 ≠ t) (htm : t ≠ m)
    (hf : σ[f]? = some (.list [.tup [.cell p1, a], .tup [.cell p2, c]])) (h1 : σ[p1]? = some (.list [.int (l.length : Nat), .int (l.length + 1 : Nat)])) (h2 : σ[p2]? = some (.list [.int (l.length + 2 : Nat)]))
    (X : Cr σ0 m t l σ k [mv v 1 (-1), mv v 2 (-1), mv v 3 (-1)] (l.length + 3) (0 + 1 + lc + 1 + la + 1 + ld))
    (h : ∀ ρ σ', Cr σ0 m t l σ' (k + nd + na + nc) (mv v 1 (l.length + 3 + ld + 1 : Nat) :: mv v 2 (l.length + 3 + ld + 1 : Nat) :: mv v 3 (l.length + 3 + ld + 1 + la + 1 : Nat) :: ((Rd (l.length + 3) k).map Row.av ++ jp (l.length + 3 + ld + 1 + la + 1 + lc + 1 : Nat) ::
      ((Ra (l.length + 3 + ld + 1) (k + nd)).map Row.av ++ jp (l.length + 3 + ld + 1 + la + 1 + lc + 1 : Nat) :: ((Rc (l.length + 3 + ld + 1 + la + 1) (k + nd + na)).map Row.av ++ [jp (l.length + 3 + ld + 1 + la + 1 + lc + 1 : Nat)])))) (l.length + 3 + ld + 1 + la + 1 + lc + 1) 0 → Q .next ρ σ') :
    wpB (W + 2) ns (run (W + 2) ns (n + 2)) ir_selT2 [some (.cell m), some s, x2, x3, some (.cell f), some dv, x6, x7, x8, x9, none, none] σ Q := by
  have z0 : σ0.length ≤ σ.length := X.fm.le
  refine X.make Md hd fun σ1 F1 X1 => ?_
  skip
  refine X1.emit fun σ2 F2 X2 => ?_
  refine newL fun vq1 vs1 vF1 vl1 vg1 => ?_; refine gL (by tm_at "l") ?_; refine And.intro (by tm_at "l") ?_; refine gL (by tm_at "l") ?_; refine And.intro (by tm_at "l") ?_
  have q1 : vq1 ≠ m := ne_new' vl1 (lt_of_get X2.hm)
  have q2 : vq1 ≠ t := ne_new' vl1 (lt_of_get X2.hc)
  have q3 : σ0.length ≤ vq1 := Nat.le_trans X2.fm.le vl1
  have s2 : σ.length ≤ σ2.length := Nat.le_trans F1.le F2.le
  have q4 : vq1 ≠ f := ne_new' vl1 (Nat.lt_of_lt_of_le (lt_of_get hf) s2)
  have q5 : vq1 ≠ p1 := ne_new' vl1 (Nat.lt_of_lt_of_le (lt_of_get h1) s2)
  have q6 : vq1 ≠ p2 := ne_new' vl1 (Nat.lt_of_lt_of_le (lt_of_get h2) s2)
  refine (X2.grow vF1).aim_match (pre := []) (post := mv v 2 (-1) :: mv v 3 (-1) :: (_ ++ [jp (-1)])) (a := .str 38) (b := v) (d := cst 1) (x := .int (-1)) rfl fun σ3 F3 X3 => ?_
  refine And.intro (by tm_at "l") ?_
  refine X3.aim_match (pre := [_]) (post := mv v 3 (-1) :: (_ ++ [jp (-1)])) (a := .str 38) (b := v) (d := cst 2) (x := .int (-1)) rfl fun σ4 F4 X4 => ?_
  refine And.intro (by tm_at "l") ?_
  refine X4.make Ma ha fun σ5 F5 X5 => ?_
  skip
  refine X5.emit fun σ6 F6 X6 => ?_
  refine app2 (by tm_at "l") (by tm_at "l") (by tm_at "w") ?_; refine And.intro (by tm_at "l") ?_; refine gL (by tm_at "l") ?_; refine And.intro (by tm_at "l") ?_
  refine (X6.put q1 q2 q3).aim_match (pre := [_, _]) (post := ((_ ++ [jp (-1)]) ++ _) ++ [jp (-1)]) (a := .str 38) (b := v) (d := cst 3) (x := .int (-1)) rfl fun σ7 F7 X7 => ?_
  refine And.intro (by tm_at "l") ?_
  refine X7.make Mc hc fun σ8 F8 X8 => ?_
  skip
  refine X8.emit fun σ9 F9 X9 => ?_
  refine app2 (by tm_at "l") (by tm_at "l") (by tm_at "w") ?_; refine And.intro (by tm_at "l") ?_; refine gL (by tm_at "l") ?_; refine And.intro (by tm_at "l") ?_
  have X9' := X9.put (x := .list ([.int (l.length + 3 + ld : Nat), .int (l.length + 3 + ld + 1 + la : Nat)] ++ [.int (l.length + 3 + ld + 1 + la + 1 + lc : Nat)])) q1 q2 q3
  have Ld : ((Rd (l.length + 3) k).map Row.av).length = ld := by rw [List.length_map, Md.1]
  have La : ((Ra (l.length + 3 + ld + 1) (k + nd)).map Row.av).length = la := by rw [List.length_map, Ma.1]
  have Lc : ((Rc (l.length + 3 + ld + 1 + la + 1) (k + nd + na)).map Row.av).length = lc := by rw [List.length_map, Mc.1]
  generalize (Rd (l.length + 3) k).map Row.av = D at h X9' Ld
  generalize (Ra (l.length + 3 + ld + 1) (k + nd)).map Row.av = A at h X9' La
  generalize (Rc (l.length + 3 + ld + 1 + la + 1) (k + nd + na)).map Row.av = E at h X9' Lc
  have Y9 := X9'.to (congrArg (fun z => mv v 1 (l.length + 3 + ld + 1 : Nat) :: mv v 2 (l.length + 3 + ld + 1 : Nat) :: mv v 3 (l.length + 3 + ld + 1 + la + 1 : Nat) :: z) app5)
  refine Y9.aim_jump (pre := _ :: _ :: _ :: D) (x := .int (-1)) (by simp only [List.length_cons, Ld]; exact (Nat.le_antisymm (lin [_, _] [] (.a (.v 0) (.a (.a (.a (.v 1) (.n 1)) (.n 1)) (.n 1))) (.a (.a (.v 0) (.n 3)) (.v 1)) (.refl true) ) (lin [_, _] [] (.a (.a (.v 0) (.n 3)) (.v 1)) (.a (.v 0) (.a (.a (.a (.v 1) (.n 1)) (.n 1)) (.n 1))) (.refl true) ))) fun σ10 F10 X10 => ?_
  refine And.intro (by tm_at "l") ?_
  refine (X10.to (congrArg (fun z => _ :: _ :: _ :: z) app2')).aim_jump (pre := _ :: _ :: _ :: (D ++ _ :: A)) (x := .int (-1)) (by simp only [List.length_cons, List.length_append, Ld, La]; exact (Nat.le_antisymm (lin [_, _, _] [] (.a (.v 0) (.a (.a (.a (.a (.v 1) (.a (.v 2) (.n 1))) (.n 1)) (.n 1)) (.n 1))) (.a (.a (.a (.a (.v 0) (.n 3)) (.v 1)) (.n 1)) (.v 2)) (.refl true) ) (lin [_, _, _] [] (.a (.a (.a (.a (.v 0) (.n 3)) (.v 1)) (.n 1)) (.v 2)) (.a (.v 0) (.a (.a (.a (.a (.v 1) (.a (.v 2) (.n 1))) (.n 1)) (.n 1)) (.n 1))) (.refl true) ))) fun σ11 F11 X11 => ?_
  refine And.intro (by tm_at "l") ?_
  refine (X11.to (congrArg (fun z => _ :: _ :: _ :: z) app2')).aim_jump (pre := _ :: _ :: _ :: ((D ++ _ :: A) ++ _ :: E)) (post := []) (x := .int (-1)) (by simp only [List.length_cons, List.length_append, Ld, La, Lc]; exact (Nat.le_antisymm (lin [_, _, _, _] [] (.a (.v 0) (.a (.a (.a (.a (.a (.v 1) (.a (.v 2) (.n 1))) (.a (.v 3) (.n 1))) (.n 1)) (.n 1)) (.n 1))) (.a (.a (.a (.a (.a (.a (.v 0) (.n 3)) (.v 1)) (.n 1)) (.v 2)) (.n 1)) (.v 3)) (.refl true) ) (lin [_, _, _, _] [] (.a (.a (.a (.a (.a (.a (.v 0) (.n 3)) (.v 1)) (.n 1)) (.v 2)) (.n 1)) (.v 3)) (.a (.v 0) (.a (.a (.a (.a (.a (.v 1) (.a (.v 2) (.n 1))) (.a (.v 3) (.n 1))) (.n 1)) (.n 1)) (.n 1))) (.refl true) ))) fun σ12 F12 X12 => ?_
  refine And.intro (by tm_at "l") ?_
  exact h _ _ (X12.to (congrArg (fun z => _ :: _ :: _ :: z) (app2'.symm.trans app2'.symm)))
theorem sel_H2 {W n : Nat} {ns : List Int} {m t : Nat} {a dv : AV} {dd ld nd da la na : Nat} {Rd Ra : Nat → Nat → List Row} (Md : MakeOk dv dd ld nd Rd) (Ma : MakeOk a da la na Ra) (hd : dd ≤ n + 2) (ha : da ≤ n + 2)
    {v s : AV} {x2 x3 x6 x7 x8 x9 : Option AV} {f p1 k : Nat} {σ0 σ : Store} {l : List AV} {Q : Fl → Vars → Store → Prop} (n1 : f ≠ m) (n2 : f ≠ t) (n3 : p1 ≠ m) (n4 : p1 ≠ t)
    (hf : σ[f]? = some (.list [.tup [.cell p1, a]])) (h1 : σ[p1]? = some (.list [.int (l.length : Nat), .int (l.length + 1 : Nat)]))
    (X : Cr σ0 m t l σ k [mv v 1 (-1), mv v 2 (-1)] (l.length + 2) (0 + 1 + la + 1 + ld))
    (h : ∀ ρ σ', Cr σ0 m t l σ' (k + nd + na) (mv v 1 (l.length + 2 + ld + 1 : Nat) :: mv v 2 (l.length + 2 + ld + 1 : Nat) :: ((Rd (l.length + 2) k).map Row.av ++ jp (l.length + 2 + ld + 1 + la + 1 : Nat) ::
      ((Ra (l.length + 2 + ld + 1) (k + nd)).map Row.av ++ [jp (l.length + 2 + ld + 1 + la + 1 : Nat)]))) (l.length + 2 + ld + 1 + la + 1) 0 → Q .next ρ σ') :
    wpB (W + 2) ns (run (W + 2) ns (n + 2)) ir_selT2 [some (.cell m), some s, x2, x3, some (.cell f), some dv, x6, x7, x8, x9, none, none] σ Q := by
  refine X.make Md hd fun σ1 F1 X1 => ?_
  skip
  refine X1.emit fun σ2 F2 X2 => ?_
  refine newL fun vq1 vs1 vF1 vl1 vg1 => ?_; refine gL (by tm_at "l") ?_; refine And.intro (by tm_at "l") ?_; refine gL (by tm_at "l") ?_; refine And.intro (by tm_at "l") ?_
  have q1 : vq1 ≠ m := ne_new' vl1 (lt_of_get X2.hm)
  have q2 : vq1 ≠ t := ne_new' vl1 (lt_of_get X2.hc)
  have q3 : σ0.length ≤ vq1 := Nat.le_trans X2.fm.le vl1
  have s2 : σ.length ≤ σ2.length := Nat.le_trans F1.le F2.le
  have q4 : vq1 ≠ f := ne_new' vl1 (Nat.lt_of_lt_of_le (lt_of_get hf) s2)
  have q5 : vq1 ≠ p1 := ne_new' vl1 (Nat.lt_of_lt_of_le (lt_of_get h1) s2)
  refine (X2.grow vF1).aim_match (pre := []) (post := mv v 2 (-1) :: (_ ++ [jp (-1)])) (a := .str 38) (b := v) (d := cst 1) (x := .int (-1)) rfl fun σ3 F3 X3 => ?_
  refine And.intro (by tm_at "l") ?_
  refine X3.aim_match (pre := [_]) (post := _ ++ [jp (-1)]) (a := .str 38) (b := v) (d := cst 2) (x := .int (-1)) rfl fun σ4 F4 X4 => ?_
  refine And.intro (by tm_at "l") ?_
  refine X4.make Ma ha fun σ5 F5 X5 => ?_
  skip
  refine X5.emit fun σ6 F6 X6 => ?_
  refine app2 (by tm_at "l") (by tm_at "l") (by tm_at "w") ?_; refine And.intro (by tm_at "l") ?_; refine gL (by tm_at "l") ?_; refine And.intro (by tm_at "l") ?_
  have X9' := X6.put (x := .list ([.int (l.length + 2 + ld : Nat)] ++ [.int (l.length + 2 + ld + 1 + la : Nat)])) q1 q2 q3
  have Ld : ((Rd (l.length + 2) k).map Row.av).length = ld := by rw [List.length_map, Md.1]
  have La : ((Ra (l.length + 2 + ld + 1) (k + nd)).map Row.av).length = la := by rw [List.length_map, Ma.1]
  generalize (Rd (l.length + 2) k).map Row.av = D at h X9' Ld
  generalize (Ra (l.length + 2 + ld + 1) (k + nd)).map Row.av = A at h X9' La
  have Y9 := X9'.to (congrArg (fun z => mv v 1 (l.length + 2 + ld + 1 : Nat) :: mv v 2 (l.length + 2 + ld + 1 : Nat) :: z) app3)
  refine Y9.aim_jump (pre := _ :: _ :: D) (x := .int (-1)) (by simp only [List.length_cons, Ld]; exact (Nat.le_antisymm (lin [_, _] [] (.a (.v 0) (.a (.a (.v 1) (.n 1)) (.n 1))) (.a (.a (.v 0) (.n 2)) (.v 1)) (.refl true) ) (lin [_, _] [] (.a (.a (.v 0) (.n 2)) (.v 1)) (.a (.v 0) (.a (.a (.v 1) (.n 1)) (.n 1))) (.refl true) ))) fun σ10 F10 X10 => ?_
  refine And.intro (by tm_at "l") ?_
  refine (X10.to (congrArg (fun z => _ :: _ :: z) app2')).aim_jump (pre := _ :: _ :: (D ++ _ :: A)) (post := []) (x := .int (-1)) (by simp only [List.length_cons, List.length_append, Ld, La]; exact (Nat.le_antisymm (lin [_, _, _] [] (.a (.v 0) (.a (.a (.a (.v 1) (.a (.v 2) (.n 1))) (.n 1)) (.n 1))) (.a (.a (.a (.a (.v 0) (.n 2)) (.v 1)) (.n 1)) (.v 2)) (.refl true) ) (lin [_, _, _] [] (.a (.a (.a (.a (.v 0) (.n 2)) (.v 1)) (.n 1)) (.v 2)) (.a (.v 0) (.a (.a (.a (.v 1) (.a (.v 2) (.n 1))) (.n 1)) (.n 1))) (.refl true) ))) fun σ11 F11 X11 => ?_
  refine And.intro (by tm_at "l") ?_
  exact h _ _ (X11.to (congrArg (fun z => _ :: _ :: z) app2'.symm))
noncomputable abbrev arm12 (a : AV) : AV := .tup [.tup [cst 1, cst 2], a]
noncomputable abbrev arm3 (c : AV) : AV := .tup [.tup [cst 3], c]
noncomputable abbrev armD (d : AV) : AV := .tup [.none, d]
theorem sel_A1 {W n : Nat} {ns : List Int} {m t : Nat} {a c v z0 z : AV} {x3 : Option AV} {k r : Nat} {σ0 σ : Store} {l : List AV} {Q : Fl → Vars → Store → Prop} (X : Cr σ0 m t l σ k [] l.length (r + 1 + 1 + 1))
    (h : ∀ f p1 p2 x6 x7 x8 x9 σ', f ≠ m → f ≠ t → p1 ≠ m → p1 ≠ t → p2 ≠ m → p2 ≠ t → σ'[f]? = some (.list [.tup [.cell p1, a], .tup [.cell p2, c]]) → σ'[p1]? = some (.list [.int (l.length : Nat), .int (l.length + 1 : Nat)]) → σ'[p2]? = some (.list [.int (l.length + 2 : Nat)]) → Cr σ0 m t l σ' k [mv v 1 (-1), mv v 2 (-1), mv v 3 (-1)] (l.length + 3) r → wpB W ns (run W ns (n + 2)) ir_selT2 [some (.cell m), some (.tup [z0, .str 38, z, .tup [arm12 a, arm3 c]]), some v, x3, some (.cell f), some AV.none, x6, x7, x8, x9, none, none] σ' Q) :
    wpB W ns (run W ns (n + 2)) ir_selT1 [some (.cell m), some (.tup [z0, .str 38, z, .tup [arm12 a, arm3 c]]), some v, x3, none, none, none, none, none, none, none, none] σ Q := by
  refine newL fun vq1 vs1 vF1 vl1 vg1 => ?_; refine newL fun vq2 vs2 vF2 vl2 vg2 => ?_
  have X1 := (X.grow vF1).grow vF2
  have n1 : vq1 ≠ m := ne_new' vl1 (lt_of_get X.hm)
  have n2 : vq1 ≠ t := ne_new' vl1 (lt_of_get X.hc)
  have n3 : vq2 ≠ m := ne_new' vl2 (lt_of_get (X.grow vF1).hm)
  have n4 : vq2 ≠ t := ne_new' vl2 (lt_of_get (X.grow vF1).hc)
  have n5 : vq2 ≠ vq1 := ne_new' vl2 (lt_of_get vg1)
  have l1 : σ0.length ≤ vq1 := Nat.le_trans X.fm.le vl1
  have l2 : σ0.length ≤ vq2 := Nat.le_trans (X.grow vF1).fm.le vl2
  refine X1.emit fun σ1 F1 X2 => ?_
  refine app2 (by tm_at "l") (by tm_at "l") (by tm_at "w") ?_
  refine (X2.put n3 n4 l2).emit fun σ2 F2 X3 => ?_
  refine app2 (by tm_at "l") (by tm_at "l") (by tm_at "w") ?_; refine app1 (by tm_at "l") (by tm_at "w") ?_; refine newL fun vq3 vs3 vF3 vl3 vg3 => ?_
  have Y := ((X3.put n3 n4 l2).put n1 n2 l1).grow vF3
  have n6 : vq3 ≠ m := ne_new' vl3 (lt_of_get ((X3.put n3 n4 l2).put n1 n2 l1).hm)
  have n7 : vq3 ≠ t := ne_new' vl3 (lt_of_get ((X3.put n3 n4 l2).put n1 n2 l1).hc)
  have n8 : vq3 ≠ vq1 := by tm_at "n"
  have n9 : vq3 ≠ vq2 := by tm_at "n"
  have l3 : σ0.length ≤ vq3 := Nat.le_trans ((X3.put n3 n4 l2).put n1 n2 l1).fm.le vl3
  refine Y.emit fun σ3 F3 X4 => ?_
  refine app2 (by tm_at "l") (by tm_at "l") (by tm_at "w") ?_; refine app1 (by tm_at "l") (by tm_at "w") ?_
  exact h vq1 vq2 vq3 _ _ _ _ _ n1 n2 n3 n4 n6 n7 (by tm_at "l") (by tm_at "l") (by tm_at "l") ((X4.put n6 n7 l3).put n1 n2 l1)
theorem sel_B1 {W n : Nat} {ns : List Int} {m t : Nat} {d a c v z0 z : AV} {x3 : Option AV} {k r : Nat} {σ0 σ : Store} {l : List AV} {Q : Fl → Vars → Store → Prop} (X : Cr σ0 m t l σ k [] l.length (r + 1 + 1 + 1))
    (h : ∀ f p1 p2 x6 x7 x8 x9 σ', f ≠ m → f ≠ t → p1 ≠ m → p1 ≠ t → p2 ≠ m → p2 ≠ t → σ'[f]? = some (.list [.tup [.cell p1, a], .tup [.cell p2, c]]) → σ'[p1]? = some (.list [.int (l.length : Nat), .int (l.length + 1 : Nat)]) → σ'[p2]? = some (.list [.int (l.length + 2 : Nat)]) → Cr σ0 m t l σ' k [mv v 1 (-1), mv v 2 (-1), mv v 3 (-1)] (l.length + 3) r → wpB W ns (run W ns (n + 2)) ir_selT2 [some (.cell m), some (.tup [z0, .str 38, z, .tup [armD d, arm12 a, arm3 c]]), some v, x3, some (.cell f), some d, x6, x7, x8, x9, none, none] σ' Q) :
    wpB W ns (run W ns (n + 2)) ir_selT1 [some (.cell m), some (.tup [z0, .str 38, z, .tup [armD d, arm12 a, arm3 c]]), some v, x3, none, none, none, none, none, none, none, none] σ Q := by
  refine newL fun vq1 vs1 vF1 vl1 vg1 => ?_; refine newL fun vq2 vs2 vF2 vl2 vg2 => ?_
  have X1 := (X.grow vF1).grow vF2
  have n1 : vq1 ≠ m := ne_new' vl1 (lt_of_get X.hm)
  have n2 : vq1 ≠ t := ne_new' vl1 (lt_of_get X.hc)
  have n3 : vq2 ≠ m := ne_new' vl2 (lt_of_get (X.grow vF1).hm)
  have n4 : vq2 ≠ t := ne_new' vl2 (lt_of_get (X.grow vF1).hc)
  have n5 : vq2 ≠ vq1 := ne_new' vl2 (lt_of_get vg1)
  have l1 : σ0.length ≤ vq1 := Nat.le_trans X.fm.le vl1
  have l2 : σ0.length ≤ vq2 := Nat.le_trans (X.grow vF1).fm.le vl2
  refine X1.emit fun σ1 F1 X2 => ?_
  refine app2 (by tm_at "l") (by tm_at "l") (by tm_at "w") ?_
  refine (X2.put n3 n4 l2).emit fun σ2 F2 X3 => ?_
  refine app2 (by tm_at "l") (by tm_at "l") (by tm_at "w") ?_; refine app1 (by tm_at "l") (by tm_at "w") ?_; refine newL fun vq3 vs3 vF3 vl3 vg3 => ?_
  have Y := ((X3.put n3 n4 l2).put n1 n2 l1).grow vF3
  have n6 : vq3 ≠ m := ne_new' vl3 (lt_of_get ((X3.put n3 n4 l2).put n1 n2 l1).hm)
  have n7 : vq3 ≠ t := ne_new' vl3 (lt_of_get ((X3.put n3 n4 l2).put n1 n2 l1).hc)
  have n8 : vq3 ≠ vq1 := by tm_at "n"
  have n9 : vq3 ≠ vq2 := by tm_at "n"
  have l3 : σ0.length ≤ vq3 := Nat.le_trans ((X3.put n3 n4 l2).put n1 n2 l1).fm.le vl3
  refine Y.emit fun σ3 F3 X4 => ?_
  refine app2 (by tm_at "l") (by tm_at "l") (by tm_at "w") ?_; refine app1 (by tm_at "l") (by tm_at "w") ?_
  exact h vq1 vq2 vq3 _ _ _ _ _ n1 n2 n3 n4 n6 n7 (by tm_at "l") (by tm_at "l") (by tm_at "l") ((X4.put n6 n7 l3).put n1 n2 l1)
theorem sel_C1 {W n : Nat} {ns : List Int} {m t : Nat} {a d v z0 z : AV} {x3 : Option AV} {k r : Nat} {σ0 σ : Store} {l : List AV} {Q : Fl → Vars → Store → Prop} (X : Cr σ0 m t l σ k [] l.length (r + 1 + 1))
    (h : ∀ f p1 x6 x7 x8 x9 σ', f ≠ m → f ≠ t → p1 ≠ m → p1 ≠ t → σ'[f]? = some (.list [.tup [.cell p1, a]]) → σ'[p1]? = some (.list [.int (l.length : Nat), .int (l.length + 1 : Nat)]) → Cr σ0 m t l σ' k [mv v 1 (-1), mv v 2 (-1)] (l.length + 2) r → wpB W ns (run W ns (n + 2)) ir_selT2 [some (.cell m), some (.tup [z0, .str 38, z, .tup [arm12 a, armD d]]), some v, x3, some (.cell f), some d, x6, x7, x8, x9, none, none] σ' Q) :
    wpB W ns (run W ns (n + 2)) ir_selT1 [some (.cell m), some (.tup [z0, .str 38, z, .tup [arm12 a, armD d]]), some v, x3, none, none, none, none, none, none, none, none] σ Q := by
  refine newL fun vq1 vs1 vF1 vl1 vg1 => ?_; refine newL fun vq2 vs2 vF2 vl2 vg2 => ?_
  have X1 := (X.grow vF1).grow vF2
  have n1 : vq1 ≠ m := ne_new' vl1 (lt_of_get X.hm)
  have n2 : vq1 ≠ t := ne_new' vl1 (lt_of_get X.hc)
  have n3 : vq2 ≠ m := ne_new' vl2 (lt_of_get (X.grow vF1).hm)
  have n4 : vq2 ≠ t := ne_new' vl2 (lt_of_get (X.grow vF1).hc)
  have n5 : vq2 ≠ vq1 := ne_new' vl2 (lt_of_get vg1)
  have l1 : σ0.length ≤ vq1 := Nat.le_trans X.fm.le vl1
  have l2 : σ0.length ≤ vq2 := Nat.le_trans (X.grow vF1).fm.le vl2
  refine X1.emit fun σ1 F1 X2 => ?_
  refine app2 (by tm_at "l") (by tm_at "l") (by tm_at "w") ?_
  refine (X2.put n3 n4 l2).emit fun σ2 F2 X3 => ?_
  refine app2 (by tm_at "l") (by tm_at "l") (by tm_at "w") ?_; refine app1 (by tm_at "l") (by tm_at "w") ?_
  exact h vq1 vq2 _ _ _ _ _ n1 n2 n3 n4 (by tm_at "l") (by tm_at "l") ((X3.put n3 n4 l2).put n1 n2 l1)
end
-- P15
section
set_option maxHeartbeats 1000000
open PySem
theorem Cr.base {σ0 σ : Store} {m t k p r : Nat} {l tl : List AV} (X : Cr σ0 m t l σ k tl p r) : Cr σ0 m t (l ++ tl) σ k [] (l ++ tl).length r := ⟨X.fm, X.hm, by rw [List.append_nil]; exact X.hc, by rw [List.append_nil], by rw [X.len]; exact X.cap⟩
theorem mk_eq {k k' t : Nat} (h : k = k') : some (mkObj k t) = some (mkObj k' t) := h ▸ rfl
theorem le_six {a b n : Nat} (h : b + 6 ≤ n + 6) (h2 : a ≤ b) : a ≤ n + 4 := Nat.le_trans h2 (Nat.le_trans (Nat.le_of_add_le_add_right h) (Nat.le_add_right _ _))
theorem ex_six {b n : Nat} (h : b + 6 ≤ n) : ∃ j, n = j + 6 := ⟨n - 6, (Nat.sub_add_cancel (Nat.le_trans (Nat.le_add_left _ _) h)).symm⟩
theorem mk_caseA1 (e : Int) {a c : AV} {da la na dc lc nc : Nat} {Ra Rc : Nat → Nat → List Row} (Ma : MakeOk a da la na Ra) (Mc : MakeOk c dc lc nc Rc) : MakeOk (.tup [.str 37, .str 38, sig e, .tup [arm12 a, arm3 c]]) (max da dc + 6) (1 + (la + lc + 6)) (1 + (na + nc)) (fun p k => saveR (some e) k ++ case3 (matR (some e) k) 0 la lc 0 na (fun zz zz => []) Ra Rc (p + 1) (k + 1)) := by
  refine ⟨fun p k => by simp [case3, saveR, Ma.1, Mc.1]; exact (Nat.le_antisymm (lin [_, _] [] (.a (.a (.a (.a (.a (.a (.v 0) (.a (.a (.v 1) (.n 1)) (.n 1))) (.n 1)) (.n 1)) (.n 1)) (.n 1)) (.n 1)) (.a (.n 1) (.a (.a (.v 0) (.v 1)) (.n 6))) (.refl true) ) (lin [_, _] [] (.a (.n 1) (.a (.a (.v 0) (.v 1)) (.n 6))) (.a (.a (.a (.a (.a (.a (.v 0) (.a (.a (.v 1) (.n 1)) (.n 1))) (.n 1)) (.n 1)) (.n 1)) (.n 1)) (.n 1)) (.refl true) )), fun W n ns m t k l σ Q hn hm hc hl h => ?_⟩
  obtain ⟨n, rfl⟩ := ex_six hn
  have X := Cr.start (r := 0 + 1 + lc + 1 + la + 1 + 0 + 1 + 1 + 1 + 1) hm hc (by exact (lin [_, _, _] [.le (.a (.v 0) (.a (.n 1) (.a (.a (.v 1) (.v 2)) (.n 6)))) (.n 1000000)] (.a (.v 0) (.a (.a (.a (.a (.a (.a (.a (.a (.a (.a (.n 0) (.n 1)) (.v 2)) (.n 1)) (.v 1)) (.n 1)) (.n 0)) (.n 1)) (.n 1)) (.n 1)) (.n 1))) (.n 1000000) (.refl true) hl))
  have htm : t ≠ m := fun e => by subst e; rw [hm] at hc; cases hc
  refine methE (by assumption) ?_
  skip
  refine methE (by assumption) ?_
  skip
  refine X.slot fun σ1 F1 X1 => ?_
  skip
  refine X1.emit fun σ2 F2 X2 => ?_
  refine sel_A1 X2.base fun f p1 p2 x6 x7 x8 x9 σ3 n1 n2 n3 n4 n5 n6 hf h1 h2 Y => ?_
  refine sel_H3 mk_none Ma Mc (Nat.le_add_left 1 _) (le_six hn (Nat.le_max_left _ _)) (le_six hn (Nat.le_max_right _ _)) n1 n2 n3 n4 n5 n6 htm hf h1 h2 Y fun ρ σ' Z => ?_
  skip
  refine h σ' Z.fm (Z.hm.trans (mk_eq (by exact (Nat.le_antisymm (lin [_, _, _] [] (.a (.a (.a (.a (.v 0) (.n 1)) (.n 0)) (.v 1)) (.v 2)) (.a (.v 0) (.a (.n 1) (.a (.v 1) (.v 2)))) (.refl true) ) (lin [_, _, _] [] (.a (.v 0) (.a (.n 1) (.a (.v 1) (.v 2)))) (.a (.a (.a (.a (.v 0) (.n 1)) (.n 0)) (.v 1)) (.v 2)) (.refl true) ))))) (get_congr Z.hc ?_)
  simp [case3, saveR, matR, Nat.add_assoc, Nat.add_comm, Nat.add_left_comm]
theorem mk_caseA0 {a c : AV} {da la na dc lc nc : Nat} {Ra Rc : Nat → Nat → List Row} (Ma : MakeOk a da la na Ra) (Mc : MakeOk c dc lc nc Rc) : MakeOk (.tup [.str 37, .str 38, cst 5, .tup [arm12 a, arm3 c]]) (max da dc + 6) (0 + (la + lc + 6)) (0 + (na + nc)) (fun p k => saveR (none) k ++ case3 (matR (none) k) 0 la lc 0 na (fun zz zz => []) Ra Rc (p + 0) (k + 0)) := by
  refine ⟨fun p k => by simp [case3, saveR, Ma.1, Mc.1]; exact (Nat.le_antisymm (lin [_, _] [] (.a (.v 0) (.a (.a (.v 1) (.n 1)) (.n 1))) (.a (.a (.v 0) (.v 1)) (.n 2)) (.refl true) ) (lin [_, _] [] (.a (.a (.v 0) (.v 1)) (.n 2)) (.a (.v 0) (.a (.a (.v 1) (.n 1)) (.n 1))) (.refl true) )), fun W n ns m t k l σ Q hn hm hc hl h => ?_⟩
  obtain ⟨n, rfl⟩ := ex_six hn
  have X := Cr.start (r := 0 + 1 + lc + 1 + la + 1 + 0 + 1 + 1 + 1) hm hc (by exact (lin [_, _, _] [.le (.a (.v 0) (.a (.n 0) (.a (.a (.v 1) (.v 2)) (.n 6)))) (.n 1000000)] (.a (.v 0) (.a (.a (.a (.a (.a (.a (.a (.a (.a (.n 0) (.n 1)) (.v 2)) (.n 1)) (.v 1)) (.n 1)) (.n 0)) (.n 1)) (.n 1)) (.n 1))) (.n 1000000) (.refl true) hl))
  have htm : t ≠ m := fun e => by subst e; rw [hm] at hc; cases hc
  refine methE (by assumption) ?_
  skip
  refine methE (by assumption) ?_
  refine sel_A1 X fun f p1 p2 x6 x7 x8 x9 σ3 n1 n2 n3 n4 n5 n6 hf h1 h2 Y => ?_
  refine sel_H3 mk_none Ma Mc (Nat.le_add_left 1 _) (le_six hn (Nat.le_max_left _ _)) (le_six hn (Nat.le_max_right _ _)) n1 n2 n3 n4 n5 n6 htm hf h1 h2 Y fun ρ σ' Z => ?_
  skip
  refine h σ' Z.fm (Z.hm.trans (mk_eq (by exact (Nat.le_antisymm (lin [_, _, _] [] (.a (.a (.a (.v 0) (.n 0)) (.v 1)) (.v 2)) (.a (.v 0) (.a (.n 0) (.a (.v 1) (.v 2)))) (.refl true) ) (lin [_, _, _] [] (.a (.v 0) (.a (.n 0) (.a (.v 1) (.v 2)))) (.a (.a (.a (.v 0) (.n 0)) (.v 1)) (.v 2)) (.refl true) ))))) (get_congr Z.hc ?_)
  simp [case3, saveR, matR, Nat.add_assoc, Nat.add_comm, Nat.add_left_comm]
theorem mk_caseB1 (e : Int) {d a c : AV} {dd ld nd da la na dc lc nc : Nat} {Rd Ra Rc : Nat → Nat → List Row} (Md : MakeOk d dd ld nd Rd) (Ma : MakeOk a da la na Ra) (Mc : MakeOk c dc lc nc Rc) : MakeOk (.tup [.str 37, .str 38, sig e, .tup [armD d, arm12 a, arm3 c]]) (max dd (max da dc) + 6) (1 + (ld + la + lc + 6)) (1 + (nd + na + nc)) (fun p k => saveR (some e) k ++ case3 (matR (some e) k) ld la lc nd na Rd Ra Rc (p + 1) (k + 1)) := by
  refine ⟨fun p k => by simp [case3, saveR, Md.1, Ma.1, Mc.1]; exact (Nat.le_antisymm (lin [_, _, _] [] (.a (.a (.a (.a (.a (.v 0) (.a (.a (.v 1) (.a (.a (.v 2) (.n 1)) (.n 1))) (.n 1))) (.n 1)) (.n 1)) (.n 1)) (.n 1)) (.a (.n 1) (.a (.a (.a (.v 0) (.v 1)) (.v 2)) (.n 6))) (.refl true) ) (lin [_, _, _] [] (.a (.n 1) (.a (.a (.a (.v 0) (.v 1)) (.v 2)) (.n 6))) (.a (.a (.a (.a (.a (.v 0) (.a (.a (.v 1) (.a (.a (.v 2) (.n 1)) (.n 1))) (.n 1))) (.n 1)) (.n 1)) (.n 1)) (.n 1)) (.refl true) )), fun W n ns m t k l σ Q hn hm hc hl h => ?_⟩
  obtain ⟨n, rfl⟩ := ex_six hn
  have X := Cr.start (r := 0 + 1 + lc + 1 + la + 1 + ld + 1 + 1 + 1 + 1) hm hc (by exact (lin [_, _, _, _] [.le (.a (.v 0) (.a (.n 1) (.a (.a (.a (.v 1) (.v 2)) (.v 3)) (.n 6)))) (.n 1000000)] (.a (.v 0) (.a (.a (.a (.a (.a (.a (.a (.a (.a (.a (.n 0) (.n 1)) (.v 3)) (.n 1)) (.v 2)) (.n 1)) (.v 1)) (.n 1)) (.n 1)) (.n 1)) (.n 1))) (.n 1000000) (.refl true) hl))
  have htm : t ≠ m := fun e => by subst e; rw [hm] at hc; cases hc
  refine methE (by assumption) ?_
  skip
  refine methE (by assumption) ?_
  skip
  refine X.slot fun σ1 F1 X1 => ?_
  skip
  refine X1.emit fun σ2 F2 X2 => ?_
  refine sel_B1 X2.base fun f p1 p2 x6 x7 x8 x9 σ3 n1 n2 n3 n4 n5 n6 hf h1 h2 Y => ?_
  refine sel_H3 Md Ma Mc (le_six hn (Nat.le_max_left _ _)) (le_six hn (Nat.le_trans (Nat.le_max_left _ _) (Nat.le_max_right _ _))) (le_six hn (Nat.le_trans (Nat.le_max_right _ _) (Nat.le_max_right _ _))) n1 n2 n3 n4 n5 n6 htm hf h1 h2 Y fun ρ σ' Z => ?_
  skip
  refine h σ' Z.fm (Z.hm.trans (mk_eq (by exact (Nat.le_antisymm (lin [_, _, _, _] [] (.a (.a (.a (.a (.v 0) (.n 1)) (.v 1)) (.v 2)) (.v 3)) (.a (.v 0) (.a (.n 1) (.a (.a (.v 1) (.v 2)) (.v 3)))) (.refl true) ) (lin [_, _, _, _] [] (.a (.v 0) (.a (.n 1) (.a (.a (.v 1) (.v 2)) (.v 3)))) (.a (.a (.a (.a (.v 0) (.n 1)) (.v 1)) (.v 2)) (.v 3)) (.refl true) ))))) (get_congr Z.hc ?_)
  simp [case3, saveR, matR, Nat.add_assoc, Nat.add_comm, Nat.add_left_comm]
theorem mk_caseB0 {d a c : AV} {dd ld nd da la na dc lc nc : Nat} {Rd Ra Rc : Nat → Nat → List Row} (Md : MakeOk d dd ld nd Rd) (Ma : MakeOk a da la na Ra) (Mc : MakeOk c dc lc nc Rc) : MakeOk (.tup [.str 37, .str 38, cst 5, .tup [armD d, arm12 a, arm3 c]]) (max dd (max da dc) + 6) (0 + (ld + la + lc + 6)) (0 + (nd + na + nc)) (fun p k => saveR (none) k ++ case3 (matR (none) k) ld la lc nd na Rd Ra Rc (p + 0) (k + 0)) := by
  refine ⟨fun p k => by simp [case3, saveR, Md.1, Ma.1, Mc.1]; exact (Nat.le_antisymm (lin [_, _, _] [] (.a (.v 0) (.a (.a (.v 1) (.a (.a (.v 2) (.n 1)) (.n 1))) (.n 1))) (.a (.a (.a (.v 0) (.v 1)) (.v 2)) (.n 3)) (.refl true) ) (lin [_, _, _] [] (.a (.a (.a (.v 0) (.v 1)) (.v 2)) (.n 3)) (.a (.v 0) (.a (.a (.v 1) (.a (.a (.v 2) (.n 1)) (.n 1))) (.n 1))) (.refl true) )), fun W n ns m t k l σ Q hn hm hc hl h => ?_⟩
  obtain ⟨n, rfl⟩ := ex_six hn
  have X := Cr.start (r := 0 + 1 + lc + 1 + la + 1 + ld + 1 + 1 + 1) hm hc (by exact (lin [_, _, _, _] [.le (.a (.v 0) (.a (.n 0) (.a (.a (.a (.v 1) (.v 2)) (.v 3)) (.n 6)))) (.n 1000000)] (.a (.v 0) (.a (.a (.a (.a (.a (.a (.a (.a (.a (.n 0) (.n 1)) (.v 3)) (.n 1)) (.v 2)) (.n 1)) (.v 1)) (.n 1)) (.n 1)) (.n 1))) (.n 1000000) (.refl true) hl))
  have htm : t ≠ m := fun e => by subst e; rw [hm] at hc; cases hc
  refine methE (by assumption) ?_
  skip
  refine methE (by assumption) ?_
  refine sel_B1 X fun f p1 p2 x6 x7 x8 x9 σ3 n1 n2 n3 n4 n5 n6 hf h1 h2 Y => ?_
  refine sel_H3 Md Ma Mc (le_six hn (Nat.le_max_left _ _)) (le_six hn (Nat.le_trans (Nat.le_max_left _ _) (Nat.le_max_right _ _))) (le_six hn (Nat.le_trans (Nat.le_max_right _ _) (Nat.le_max_right _ _))) n1 n2 n3 n4 n5 n6 htm hf h1 h2 Y fun ρ σ' Z => ?_
  skip
  refine h σ' Z.fm (Z.hm.trans (mk_eq (by exact (Nat.le_antisymm (lin [_, _, _, _] [] (.a (.a (.a (.v 0) (.v 1)) (.v 2)) (.v 3)) (.a (.v 0) (.a (.n 0) (.a (.a (.v 1) (.v 2)) (.v 3)))) (.refl true) ) (lin [_, _, _, _] [] (.a (.v 0) (.a (.n 0) (.a (.a (.v 1) (.v 2)) (.v 3)))) (.a (.a (.a (.v 0) (.v 1)) (.v 2)) (.v 3)) (.refl true) ))))) (get_congr Z.hc ?_)
  simp [case3, saveR, matR, Nat.add_assoc, Nat.add_comm, Nat.add_left_comm]
theorem mk_caseC1 (e : Int) {a d : AV} {da la na dd ld nd : Nat} {Ra Rd : Nat → Nat → List Row} (Ma : MakeOk a da la na Ra) (Md : MakeOk d dd ld nd Rd) : MakeOk (.tup [.str 37, .str 38, sig e, .tup [arm12 a, armD d]]) (max da dd + 6) (1 + (ld + la + 4)) (1 + (nd + na)) (fun p k => saveR (some e) k ++ case2 (matR (some e) k) ld la nd Rd Ra (p + 1) (k + 1)) := by
  refine ⟨fun p k => by simp [case2, saveR, Ma.1, Md.1]; exact (Nat.le_antisymm (lin [_, _] [] (.a (.a (.a (.a (.v 0) (.a (.a (.v 1) (.n 1)) (.n 1))) (.n 1)) (.n 1)) (.n 1)) (.a (.n 1) (.a (.a (.v 0) (.v 1)) (.n 4))) (.refl true) ) (lin [_, _] [] (.a (.n 1) (.a (.a (.v 0) (.v 1)) (.n 4))) (.a (.a (.a (.a (.v 0) (.a (.a (.v 1) (.n 1)) (.n 1))) (.n 1)) (.n 1)) (.n 1)) (.refl true) )), fun W n ns m t k l σ Q hn hm hc hl h => ?_⟩
  obtain ⟨n, rfl⟩ := ex_six hn
  have X := Cr.start (r := 0 + 1 + la + 1 + ld + 1 + 1 + 1) hm hc (by exact (lin [_, _, _] [.le (.a (.v 0) (.a (.n 1) (.a (.a (.v 1) (.v 2)) (.n 4)))) (.n 1000000)] (.a (.v 0) (.a (.a (.a (.a (.a (.a (.a (.n 0) (.n 1)) (.v 2)) (.n 1)) (.v 1)) (.n 1)) (.n 1)) (.n 1))) (.n 1000000) (.refl true) hl))
  have htm : t ≠ m := fun e => by subst e; rw [hm] at hc; cases hc
  refine methE (by assumption) ?_
  skip
  refine methE (by assumption) ?_
  skip
  refine X.slot fun σ1 F1 X1 => ?_
  skip
  refine X1.emit fun σ2 F2 X2 => ?_
  refine sel_C1 X2.base fun f p1 x6 x7 x8 x9 σ3 n1 n2 n3 n4 hf h1 Y => ?_
  refine sel_H2 Md Ma (le_six hn (Nat.le_max_right _ _)) (le_six hn (Nat.le_max_left _ _)) n1 n2 n3 n4 hf h1 Y fun ρ σ' Z => ?_
  skip
  refine h σ' Z.fm (Z.hm.trans (mk_eq (by exact (Nat.le_antisymm (lin [_, _, _] [] (.a (.a (.a (.v 0) (.n 1)) (.v 1)) (.v 2)) (.a (.v 0) (.a (.n 1) (.a (.v 1) (.v 2)))) (.refl true) ) (lin [_, _, _] [] (.a (.v 0) (.a (.n 1) (.a (.v 1) (.v 2)))) (.a (.a (.a (.v 0) (.n 1)) (.v 1)) (.v 2)) (.refl true) ))))) (get_congr Z.hc ?_)
  simp [case2, saveR, matR, Nat.add_assoc, Nat.add_comm, Nat.add_left_comm]
theorem mk_caseC0 {a d : AV} {da la na dd ld nd : Nat} {Ra Rd : Nat → Nat → List Row} (Ma : MakeOk a da la na Ra) (Md : MakeOk d dd ld nd Rd) : MakeOk (.tup [.str 37, .str 38, cst 5, .tup [arm12 a, armD d]]) (max da dd + 6) (0 + (ld + la + 4)) (0 + (nd + na)) (fun p k => saveR (none) k ++ case2 (matR (none) k) ld la nd Rd Ra (p + 0) (k + 0)) := by
  refine ⟨fun p k => by simp [case2, saveR, Ma.1, Md.1]; exact (Nat.le_antisymm (lin [_, _] [] (.a (.v 0) (.a (.a (.v 1) (.n 1)) (.n 1))) (.a (.a (.v 0) (.v 1)) (.n 2)) (.refl true) ) (lin [_, _] [] (.a (.a (.v 0) (.v 1)) (.n 2)) (.a (.v 0) (.a (.a (.v 1) (.n 1)) (.n 1))) (.refl true) )), fun W n ns m t k l σ Q hn hm hc hl h => ?_⟩
  obtain ⟨n, rfl⟩ := ex_six hn
  have X := Cr.start (r := 0 + 1 + la + 1 + ld + 1 + 1) hm hc (by exact (lin [_, _, _] [.le (.a (.v 0) (.a (.n 0) (.a (.a (.v 1) (.v 2)) (.n 4)))) (.n 1000000)] (.a (.v 0) (.a (.a (.a (.a (.a (.a (.n 0) (.n 1)) (.v 2)) (.n 1)) (.v 1)) (.n 1)) (.n 1))) (.n 1000000) (.refl true) hl))
  have htm : t ≠ m := fun e => by subst e; rw [hm] at hc; cases hc
  refine methE (by assumption) ?_
  skip
  refine methE (by assumption) ?_
  refine sel_C1 X fun f p1 x6 x7 x8 x9 σ3 n1 n2 n3 n4 hf h1 Y => ?_
  refine sel_H2 Md Ma (le_six hn (Nat.le_max_right _ _)) (le_six hn (Nat.le_max_left _ _)) n1 n2 n3 n4 hf h1 Y fun ρ σ' Z => ?_
  skip
  refine h σ' Z.fm (Z.hm.trans (mk_eq (by exact (Nat.le_antisymm (lin [_, _, _] [] (.a (.a (.v 0) (.v 1)) (.v 2)) (.a (.v 0) (.a (.n 0) (.a (.v 1) (.v 2)))) (.refl true) ) (lin [_, _, _] [] (.a (.v 0) (.a (.n 0) (.a (.v 1) (.v 2)))) (.a (.a (.v 0) (.v 1)) (.v 2)) (.refl true) ))))) (get_congr Z.hc ?_)
  simp [case2, saveR, matR, Nat.add_assoc, Nat.add_comm, Nat.add_left_comm]
end
-- P16
section
set_option maxHeartbeats 1000000
open PySem
theorem rows_none : (fun zz zz => []) = S.rows .none := rfl
theorem mkS_eq {s : S} {v : AV} {d len nsl : Nat} {R : Nat → Nat → List Row} (h : MakeOk v d len nsl R) (e1 : s.av = v) (e2 : d ≤ s.dep) (e3 : s.len = len) (e4 : s.nsl = nsl) (e5 : ∀ p k, s.rows p k = R p k) : MkS s := by
  have e5 : s.rows = R := funext fun p => funext fun k => e5 p k
  unfold MkS
  rw [e1, e3, e4, e5]
  exact h.mono e2
mutual
theorem mkS : ∀ s : S, MkS s
  | .none => mkS_eq mk_none rfl (by simp [S.dep]) rfl rfl (fun p k => rfl)
  | .pl p => mkS_eq (mk_pl p) rfl (by simp [S.dep]) rfl rfl (fun p k => rfl)
  | .ite e a b => by
    by_cases hb : b.isNone = true
    · have hb' := S.isNone_eq hb
      subst hb'
      refine mkS_eq (mk_if1 e (mkS a)) (by simp only [S.av]) (by simp only [S.dep]; exact (lin [_, _] [.le (.v 0) (.v 1)] (.a (.v 0) (.n 4)) (.a (.v 1) (.n 6)) (.refl true) (Nat.le_max_left _ _))) (by simp only [S.len, hb, if_true]) (by simp [S.nsl]) (fun p k => by simp only [S.rows, hb, if_true])
    · have hb1 : b.isNone = false := by simpa using hb
      refine mkS_eq (mk_if2 (d := max a.dep b.dep) e ((mkS a).mono (by exact (Nat.le_max_left _ _))) (mkS b) (by exact (Nat.le_max_right _ _)) (S.av_ne hb1)) (by simp only [S.av]) (by simp only [S.dep]; exact (lin [_] [] (.a (.v 0) (.n 4)) (.a (.v 0) (.n 6)) (.refl true) )) (by simp only [S.len, hb1]; rfl) (by simp only [S.nsl]) (fun p k => by simp only [S.rows, hb1]; rfl)
  | .caseA none a c => mkS_eq (mk_caseA0 (mkS a) (mkS c)) rfl (by first | exact Nat.le_refl _ | exact Nat.le_succ _) rfl rfl (fun p k => rfl)
  | .caseA (some e) a c => mkS_eq (mk_caseA1 e (mkS a) (mkS c)) rfl (by first | exact Nat.le_refl _ | exact Nat.le_succ _) rfl rfl (fun p k => rfl)
  | .caseB none d a c => mkS_eq (mk_caseB0 (mkS d) (mkS a) (mkS c)) rfl (by first | exact Nat.le_refl _ | exact Nat.le_succ _) rfl rfl (fun p k => rfl)
  | .caseB (some e) d a c => mkS_eq (mk_caseB1 e (mkS d) (mkS a) (mkS c)) rfl (by first | exact Nat.le_refl _ | exact Nat.le_succ _) rfl rfl (fun p k => rfl)
  | .caseC none a d => mkS_eq (mk_caseC0 (mkS a) (mkS d)) rfl (by first | exact Nat.le_refl _ | exact Nat.le_succ _) rfl rfl (fun p k => rfl)
  | .caseC (some e) a d => mkS_eq (mk_caseC1 e (mkS a) (mkS d)) rfl (by first | exact Nat.le_refl _ | exact Nat.le_succ _) rfl rfl (fun p k => rfl)
  | .for_ p e q b => mkS_eq (mk_for (d := max 4 b.dep) e (mk_pl p) (mk_pl q) ((mkS b).mono (by exact (Nat.le_max_right _ _))) (by exact (lin [_] [] (.n 4) (.a (.v 0) (.n 4)) (.refl true) )) (by exact (lin [_] [.le (.n 4) (.v 0)] (.n 4) (.a (.v 0) (.n 1)) (.refl true) (Nat.le_max_left _ _)))) rfl (by first | exact Nat.le_refl _ | exact Nat.le_succ _) rfl rfl (fun p k => rfl)
  | .while_ e b => mkS_eq (mk_while e (mkS b)) rfl (by first | exact Nat.le_refl _ | exact Nat.le_succ _) rfl rfl (fun p k => rfl)
  | .repeat_ e b => mkS_eq (mk_repeat e (mkS b)) rfl (by first | exact Nat.le_refl _ | exact Nat.le_succ _) rfl rfl (fun p k => rfl)
  | .forever b => mkS_eq (mk_forever (mkS b)) rfl (by first | exact Nat.le_refl _ | exact Nat.le_succ _) rfl rfl (fun p k => rfl)
  | .block l c => mk_block l c (mkL l)
  | .fork l c => mk_fork l c (mkL l)
  | .delay e b => mkS_eq (mk_delay e (mkS b)) rfl (by first | exact Nat.le_refl _ | exact Nat.le_succ _) rfl rfl (fun p k => rfl)
  | .wait e b => mkS_eq (mk_wait e (mkS b)) rfl (by first | exact Nat.le_refl _ | exact Nat.le_succ _) rfl rfl (fun p k => rfl)
  | .await e b => mkS_eq (mk_await e (mkS b)) rfl (by first | exact Nat.le_refl _ | exact Nat.le_succ _) rfl rfl (fun p k => rfl)
theorem mkL : ∀ l : SL, MkL l
  | .nil => trivial
  | .cons s r => ⟨mkS s, mkL r⟩
end
/-! what a statement does, and what it opens -/
noncomputable def vActs : Option Int → List AV
  | none => []
  | some e => [.tup [.str 47, sig e]]
noncomputable def scOp (x : Nat) : Option Nat → List (Int × Nat)
  | none => []
  | some c => [((c : Int), x)]
mutual
noncomputable def S.acts : S → List AV
  | .none => []
  | .pl p => p.acts
  | .ite _ a b => a.acts ++ b.acts
  | .caseA v a c => vActs v ++ (a.acts ++ c.acts)
  | .caseB v d a c => vActs v ++ (d.acts ++ (a.acts ++ c.acts))
  | .caseC v a d => vActs v ++ (d.acts ++ a.acts)
  | .for_ p _ q b => p.acts ++ (b.acts ++ q.acts)
  | .while_ _ b => b.acts
  | .repeat_ _ b => b.acts
  | .forever b => b.acts
  | .block l _ => l.acts
  | .fork l _ => l.acts
  | .delay e b => .tup [.str 30, sig e] :: b.acts
  | .wait e b => .tup [.str 46, sig e] :: b.acts
  | .await e b => .tup [.str 31, anyEv e] :: b.acts
noncomputable def SL.acts : SL → List AV
  | .nil => []
  | .cons s r => s.acts ++ r.acts
end
mutual
noncomputable def S.op : S → List (Int × Nat)
  | .none => []
  | .pl _ => []
  | .ite _ a b => a.op ++ b.op
  | .caseA _ a c => a.op ++ c.op
  | .caseB _ d a c => d.op ++ (a.op ++ c.op)
  | .caseC _ a d => d.op ++ a.op
  | .for_ _ _ _ b => b.op
  | .while_ _ b => b.op
  | .repeat_ _ b => b.op
  | .forever b => b.op
  | .block l c => scOp 22 c ++ l.op
  | .fork l c => scOp 15 c ++ l.op
  | .delay _ b => b.op
  | .wait _ b => b.op
  | .await _ b => b.op
noncomputable def SL.op : SL → List (Int × Nat)
  | .nil => []
  | .cons s r => s.op ++ r.op
end
noncomputable def SL.num : SL → Nat
  | .nil => 0
  | .cons _ r => r.num + 1
mutual
noncomputable def S.fk : S → List Nat
  | .none => []
  | .pl _ => []
  | .ite _ a b => a.fk ++ b.fk
  | .caseA _ a c => a.fk ++ c.fk
  | .caseB _ d a c => d.fk ++ (a.fk ++ c.fk)
  | .caseC _ a d => d.fk ++ a.fk
  | .for_ _ _ _ b => b.fk
  | .while_ _ b => b.fk
  | .repeat_ _ b => b.fk
  | .forever b => b.fk
  | .block l _ => l.fk
  | .fork l _ => l.num :: l.fk
  | .delay _ b => b.fk
  | .wait _ b => b.fk
  | .await _ b => b.fk
noncomputable def SL.fk : SL → List Nat
  | .nil => []
  | .cons s r => s.fk ++ r.fk
end
noncomputable def AcS (s : S) : Prop := ActsOk s.av s.dep s.acts s.op s.fk
noncomputable def AcL : SL → Prop
  | .nil => True
  | .cons s r => AcS s ∧ AcL r
theorem loop_acts {W n : Nat} {ns : List Int} {a f f0 f1 : Nat} {it : List AV} {oc : Option Nat} {step : AV → Vars → Store → (Fl → Vars → Store → Prop) → Prop} (R : Option AV → Vars) {Q : Fl → Vars → Store → Prop}
    (n1 : a ≠ f) (n2 : a ≠ f0) (n3 : a ≠ f1) (n4 : f ≠ f0) (n5 : f ≠ f1) (n6 : f0 ≠ f1)
    (hs : ∀ v x σ Q', W2 (run W ns n .law_acts [v, .cell a, .cell f] σ) (fun zz σ' => Q' .next (R (some v)) σ') → step v (R x) σ Q') :
    ∀ (ls : SL) (A O K : List AV) (x : Option AV) (σ : Store), AcL ls → ls.dep ≤ n → σ[a]? = some (.list A) → σ[f]? = some (.list [.cell f0, .cell f1]) → σ[f0]? = some (.list O) → σ[f1]? = some (.list K) →
      (∀ σ' (P : Prop), Fm [a, f0, f1] σ σ' → P → okK oc it σ' P) → A.length + ls.acts.length ≤ 1000000 → O.length + ls.op.length ≤ 1000000 → K.length + ls.fk.length ≤ 1000000 →
      (∀ x' σ', Fm [a, f0, f1] σ σ' → σ'[a]? = some (.list (A ++ ls.acts)) → σ'[f0]? = some (.list (O ++ ls.op.map pairAV)) → σ'[f1]? = some (.list (K ++ ls.fk.map fun i => .int i)) → Q .next (R x') σ') →
      wpLoop step it oc ls.avs (R x) σ Q
  | .nil, A, O, K, x, σ, _, _, ha, hf, h0, h1, hok, _, _, _, h => hok σ _ (Fm.refl _ _) (h x σ (Fm.refl _ _) (by simpa [SL.acts] using ha) (by simpa [SL.op] using h0) (by simpa [SL.fk] using h1))
  | .cons s r, A, O, K, x, σ, hM, hd, ha, hf, h0, h1, hok, lA, lO, lK, h => by
    simp only [SL.avs]
    simp only [SL.dep] at hd
    simp only [SL.acts, SL.op, SL.fk, List.length_append] at lA lO lK
    refine hok σ _ (Fm.refl _ _) (hs _ _ _ _ (hM.1 W n ns a f f0 f1 A O K σ _ (by exact (Nat.le_trans (Nat.le_max_left _ _) hd)) ha hf h0 h1 n1 n2 n3 n4 n5 n6 (by exact (lin [_, _, _] [.le (.a (.v 0) (.a (.v 1) (.v 2))) (.n 1000000)] (.a (.v 0) (.v 1)) (.n 1000000) (.refl true) lA)) (by exact (lin [_, _, _] [.le (.a (.v 0) (.a (.v 1) (.v 2))) (.n 1000000)] (.a (.v 0) (.v 1)) (.n 1000000) (.refl true) lO)) (by exact (lin [_, _, _] [.le (.a (.v 0) (.a (.v 1) (.v 2))) (.n 1000000)] (.a (.v 0) (.v 1)) (.n 1000000) (.refl true) lK)) fun σ1 F1 ha1 h01 h11 => ?_))
    refine (loop_acts R n1 n2 n3 n4 n5 n6 hs r _ _ _ _ σ1 hM.2 (by exact (Nat.le_trans (Nat.le_max_right _ _) hd)) ha1 (F1.get hf (ni3 n1.symm n4 n5)) h01 h11 (fun σ' P F => hok σ' P (F1.trans F)) (by simp; exact (lin [_, _, _] [.le (.a (.v 0) (.a (.v 1) (.v 2))) (.n 1000000)] (.a (.a (.v 0) (.v 1)) (.v 2)) (.n 1000000) (.refl true) lA)) (by simp; exact (lin [_, _, _] [.le (.a (.v 0) (.a (.v 1) (.v 2))) (.n 1000000)] (.a (.a (.v 0) (.v 1)) (.v 2)) (.n 1000000) (.refl true) lO)) (by simp; exact (lin [_, _, _] [.le (.a (.v 0) (.a (.v 1) (.v 2))) (.n 1000000)] (.a (.a (.v 0) (.v 1)) (.v 2)) (.n 1000000) (.refl true) lK)) fun x' σ2 F2 ha2 h02 h12 => ?_)
    exact h x' σ2 (F1.trans F2) (get_congr ha2 (by simp [SL.acts])) (get_congr h02 (by simp [SL.op])) (get_congr h12 (by simp [SL.fk]))
end
-- P17
section
set_option maxHeartbeats 1000000
open PySem
theorem ac_if (e : Int) {x : AV} {dx : Nat} {Ax : List AV} {Ox : List (Int × Nat)} {Kx : List Nat} (Hx : ActsOk x dx Ax Ox Kx) {y : AV} {dy : Nat} {Ay : List AV} {Oy : List (Int × Nat)} {Ky : List Nat} (Hy : ActsOk y dy Ay Oy Ky) : ActsOk (.tup [.str 36, sig e, x, y]) (max (dx) dy + 6) (Ax ++ (Ay)) (Ox ++ (Oy)) (Kx ++ (Ky)) := by
  intro W n ns a f f0 f1 A O K σ Q hn ha hf h0 h1 n1 n2 n3 n4 n5 n6 lA lO lK h
  obtain ⟨n, rfl⟩ : ∃ j, n = j + 1 := ex_add (by exact (lin [_, _] [.le (.a (.v 0) (.n 6)) (.v 1)] (.n 1) (.v 1) (.refl true) hn))
  try simp only [List.length_append, List.length_cons] at lA lO lK
  have Dx : dx ≤ n := by exact (lin [_, _, _] [.le (.v 0) (.v 1), .le (.a (.v 1) (.n 6)) (.a (.v 2) (.n 1))] (.v 0) (.v 2) (.refl true) (Nat.le_max_left _ _) hn)
  have Dy : dy ≤ n := by exact (lin [_, _, _] [.le (.v 0) (.v 1), .le (.a (.v 1) (.n 6)) (.a (.v 2) (.n 1))] (.v 0) (.v 2) (.refl true) (Nat.le_max_right _ _) hn)
  refine enter ?_
  skip
  refine Hx W n ns a f f0 f1 _ _ _ _ _ Dx (by tm_at "l") (by tm_at "l") (by tm_at "l") (by tm_at "l") n1 n2 n3 n4 n5 n6 (by first | exact (lin [_, _, _] [.le (.a (.v 0) (.a (.v 1) (.v 2))) (.n 1000000)] (.a (.v 0) (.v 1)) (.n 1000000) (.refl true) lA) | (simp; fail)) (by first | exact (lin [_, _, _] [.le (.a (.v 0) (.a (.v 1) (.v 2))) (.n 1000000)] (.a (.v 0) (.v 1)) (.n 1000000) (.refl true) lO) | (simp; fail)) (by first | exact (lin [_, _, _] [.le (.a (.v 0) (.a (.v 1) (.v 2))) (.n 1000000)] (.a (.v 0) (.v 1)) (.n 1000000) (.refl true) lK) | (simp; fail)) fun σ0 F0 ha0 h00 h10 => ?_
  have hf0 : σ0[f]? = some (.list [.cell f0, .cell f1]) := by tm_at "l"
  skip
  refine Hy W n ns a f f0 f1 _ _ _ _ _ Dy (by tm_at "l") (by tm_at "l") (by tm_at "l") (by tm_at "l") n1 n2 n3 n4 n5 n6 (by first | fail | (simp; exact (lin [_, _, _] [.le (.a (.v 0) (.a (.v 1) (.v 2))) (.n 1000000)] (.a (.a (.v 0) (.v 1)) (.v 2)) (.n 1000000) (.refl true) lA))) (by first | fail | (simp; exact (lin [_, _, _] [.le (.a (.v 0) (.a (.v 1) (.v 2))) (.n 1000000)] (.a (.a (.v 0) (.v 1)) (.v 2)) (.n 1000000) (.refl true) lO))) (by first | fail | (simp; exact (lin [_, _, _] [.le (.a (.v 0) (.a (.v 1) (.v 2))) (.n 1000000)] (.a (.a (.v 0) (.v 1)) (.v 2)) (.n 1000000) (.refl true) lK))) fun σ1 F1 ha1 h01 h11 => ?_
  have hf1 : σ1[f]? = some (.list [.cell f0, .cell f1]) := by tm_at "l"
  skip
  exact h _ (by tm_at "f") (by tm_at "p") (by tm_at "p") (by tm_at "p")
theorem ac_for (e : Int) {x : AV} {dx : Nat} {Ax : List AV} {Ox : List (Int × Nat)} {Kx : List Nat} (Hx : ActsOk x dx Ax Ox Kx) {y : AV} {dy : Nat} {Ay : List AV} {Oy : List (Int × Nat)} {Ky : List Nat} (Hy : ActsOk y dy Ay Oy Ky) {z : AV} {dz : Nat} {Az : List AV} {Oz : List (Int × Nat)} {Kz : List Nat} (Hz : ActsOk z dz Az Oz Kz) : ActsOk (.tup [.str 39, x, sig e, z, y]) (max (max (dx) dy) dz + 6) (Ax ++ (Ay ++ (Az))) (Ox ++ (Oy ++ (Oz))) (Kx ++ (Ky ++ (Kz))) := by
  intro W n ns a f f0 f1 A O K σ Q hn ha hf h0 h1 n1 n2 n3 n4 n5 n6 lA lO lK h
  obtain ⟨n, rfl⟩ : ∃ j, n = j + 1 := ex_add (by exact (lin [_, _] [.le (.a (.v 0) (.n 6)) (.v 1)] (.n 1) (.v 1) (.refl true) hn))
  try simp only [List.length_append, List.length_cons] at lA lO lK
  have D0 : max dx dy ≤ n := by exact (lin [_, _, _] [.le (.v 0) (.v 1), .le (.a (.v 1) (.n 6)) (.a (.v 2) (.n 1))] (.v 0) (.v 2) (.refl true) (Nat.le_max_left _ _) hn)
  have Dx : dx ≤ n := Nat.le_trans (Nat.le_max_left _ _) D0
  have Dy : dy ≤ n := Nat.le_trans (Nat.le_max_right _ _) D0
  have Dz : dz ≤ n := by exact (lin [_, _, _] [.le (.v 0) (.v 1), .le (.a (.v 1) (.n 6)) (.a (.v 2) (.n 1))] (.v 0) (.v 2) (.refl true) (Nat.le_max_right _ _) hn)
  refine enter ?_
  skip
  refine Hx W n ns a f f0 f1 _ _ _ _ _ Dx (by tm_at "l") (by tm_at "l") (by tm_at "l") (by tm_at "l") n1 n2 n3 n4 n5 n6 (by first | exact (lin [_, _, _, _] [.le (.a (.v 0) (.a (.v 1) (.a (.v 2) (.v 3)))) (.n 1000000)] (.a (.v 0) (.v 1)) (.n 1000000) (.refl true) lA) | (simp; fail)) (by first | exact (lin [_, _, _, _] [.le (.a (.v 0) (.a (.v 1) (.a (.v 2) (.v 3)))) (.n 1000000)] (.a (.v 0) (.v 1)) (.n 1000000) (.refl true) lO) | (simp; fail)) (by first | exact (lin [_, _, _, _] [.le (.a (.v 0) (.a (.v 1) (.a (.v 2) (.v 3)))) (.n 1000000)] (.a (.v 0) (.v 1)) (.n 1000000) (.refl true) lK) | (simp; fail)) fun σ0 F0 ha0 h00 h10 => ?_
  have hf0 : σ0[f]? = some (.list [.cell f0, .cell f1]) := by tm_at "l"
  skip
  refine Hy W n ns a f f0 f1 _ _ _ _ _ Dy (by tm_at "l") (by tm_at "l") (by tm_at "l") (by tm_at "l") n1 n2 n3 n4 n5 n6 (by first | fail | (simp; exact (lin [_, _, _, _] [.le (.a (.v 0) (.a (.v 1) (.a (.v 2) (.v 3)))) (.n 1000000)] (.a (.a (.v 0) (.v 1)) (.v 2)) (.n 1000000) (.refl true) lA))) (by first | fail | (simp; exact (lin [_, _, _, _] [.le (.a (.v 0) (.a (.v 1) (.a (.v 2) (.v 3)))) (.n 1000000)] (.a (.a (.v 0) (.v 1)) (.v 2)) (.n 1000000) (.refl true) lO))) (by first | fail | (simp; exact (lin [_, _, _, _] [.le (.a (.v 0) (.a (.v 1) (.a (.v 2) (.v 3)))) (.n 1000000)] (.a (.a (.v 0) (.v 1)) (.v 2)) (.n 1000000) (.refl true) lK))) fun σ1 F1 ha1 h01 h11 => ?_
  have hf1 : σ1[f]? = some (.list [.cell f0, .cell f1]) := by tm_at "l"
  skip
  refine Hz W n ns a f f0 f1 _ _ _ _ _ Dz (by tm_at "l") (by tm_at "l") (by tm_at "l") (by tm_at "l") n1 n2 n3 n4 n5 n6 (by first | fail | (simp; exact (lin [_, _, _, _] [.le (.a (.v 0) (.a (.v 1) (.a (.v 2) (.v 3)))) (.n 1000000)] (.a (.a (.v 0) (.a (.v 1) (.v 2))) (.v 3)) (.n 1000000) (.refl true) lA))) (by first | fail | (simp; exact (lin [_, _, _, _] [.le (.a (.v 0) (.a (.v 1) (.a (.v 2) (.v 3)))) (.n 1000000)] (.a (.a (.v 0) (.a (.v 1) (.v 2))) (.v 3)) (.n 1000000) (.refl true) lO))) (by first | fail | (simp; exact (lin [_, _, _, _] [.le (.a (.v 0) (.a (.v 1) (.a (.v 2) (.v 3)))) (.n 1000000)] (.a (.a (.v 0) (.a (.v 1) (.v 2))) (.v 3)) (.n 1000000) (.refl true) lK))) fun σ2 F2 ha2 h02 h12 => ?_
  have hf2 : σ2[f]? = some (.list [.cell f0, .cell f1]) := by tm_at "l"
  skip
  exact h _ (by tm_at "f") (by tm_at "p") (by tm_at "p") (by tm_at "p")
theorem ac_while (e : Int) {x : AV} {dx : Nat} {Ax : List AV} {Ox : List (Int × Nat)} {Kx : List Nat} (Hx : ActsOk x dx Ax Ox Kx) : ActsOk (.tup [.str 40, sig e, x]) (dx + 6) (Ax) (Ox) (Kx) := by
  intro W n ns a f f0 f1 A O K σ Q hn ha hf h0 h1 n1 n2 n3 n4 n5 n6 lA lO lK h
  obtain ⟨n, rfl⟩ : ∃ j, n = j + 1 := ex_add (by exact (lin [_, _] [.le (.a (.v 0) (.n 6)) (.v 1)] (.n 1) (.v 1) (.refl true) hn))
  try simp only [List.length_append, List.length_cons] at lA lO lK
  have Dx : dx ≤ n := by exact (lin [_, _] [.le (.a (.v 0) (.n 6)) (.a (.v 1) (.n 1))] (.v 0) (.v 1) (.refl true) hn)
  refine enter ?_
  skip
  refine Hx W n ns a f f0 f1 _ _ _ _ _ Dx (by tm_at "l") (by tm_at "l") (by tm_at "l") (by tm_at "l") n1 n2 n3 n4 n5 n6 (by first | exact lA | (simp; fail)) (by first | exact lO | (simp; fail)) (by first | exact lK | (simp; fail)) fun σ0 F0 ha0 h00 h10 => ?_
  have hf0 : σ0[f]? = some (.list [.cell f0, .cell f1]) := by tm_at "l"
  skip
  exact h _ (by tm_at "f") (by tm_at "p") (by tm_at "p") (by tm_at "p")
theorem ac_repeat (e : Int) {x : AV} {dx : Nat} {Ax : List AV} {Ox : List (Int × Nat)} {Kx : List Nat} (Hx : ActsOk x dx Ax Ox Kx) : ActsOk (.tup [.str 41, sig e, .bool true, x]) (dx + 6) (Ax) (Ox) (Kx) := by
  intro W n ns a f f0 f1 A O K σ Q hn ha hf h0 h1 n1 n2 n3 n4 n5 n6 lA lO lK h
  obtain ⟨n, rfl⟩ : ∃ j, n = j + 1 := ex_add (by exact (lin [_, _] [.le (.a (.v 0) (.n 6)) (.v 1)] (.n 1) (.v 1) (.refl true) hn))
  try simp only [List.length_append, List.length_cons] at lA lO lK
  have Dx : dx ≤ n := by exact (lin [_, _] [.le (.a (.v 0) (.n 6)) (.a (.v 1) (.n 1))] (.v 0) (.v 1) (.refl true) hn)
  refine enter ?_
  skip
  refine Hx W n ns a f f0 f1 _ _ _ _ _ Dx (by tm_at "l") (by tm_at "l") (by tm_at "l") (by tm_at "l") n1 n2 n3 n4 n5 n6 (by first | exact lA | (simp; fail)) (by first | exact lO | (simp; fail)) (by first | exact lK | (simp; fail)) fun σ0 F0 ha0 h00 h10 => ?_
  have hf0 : σ0[f]? = some (.list [.cell f0, .cell f1]) := by tm_at "l"
  skip
  exact h _ (by tm_at "f") (by tm_at "p") (by tm_at "p") (by tm_at "p")
theorem ac_forever  {x : AV} {dx : Nat} {Ax : List AV} {Ox : List (Int × Nat)} {Kx : List Nat} (Hx : ActsOk x dx Ax Ox Kx) : ActsOk (.tup [.str 42, x]) (dx + 6) (Ax) (Ox) (Kx) := by
  intro W n ns a f f0 f1 A O K σ Q hn ha hf h0 h1 n1 n2 n3 n4 n5 n6 lA lO lK h
  obtain ⟨n, rfl⟩ : ∃ j, n = j + 1 := ex_add (by exact (lin [_, _] [.le (.a (.v 0) (.n 6)) (.v 1)] (.n 1) (.v 1) (.refl true) hn))
  try simp only [List.length_append, List.length_cons] at lA lO lK
  have Dx : dx ≤ n := by exact (lin [_, _] [.le (.a (.v 0) (.n 6)) (.a (.v 1) (.n 1))] (.v 0) (.v 1) (.refl true) hn)
  refine enter ?_
  skip
  refine Hx W n ns a f f0 f1 _ _ _ _ _ Dx (by tm_at "l") (by tm_at "l") (by tm_at "l") (by tm_at "l") n1 n2 n3 n4 n5 n6 (by first | exact lA | (simp; fail)) (by first | exact lO | (simp; fail)) (by first | exact lK | (simp; fail)) fun σ0 F0 ha0 h00 h10 => ?_
  have hf0 : σ0[f]? = some (.list [.cell f0, .cell f1]) := by tm_at "l"
  skip
  exact h _ (by tm_at "f") (by tm_at "p") (by tm_at "p") (by tm_at "p")
theorem ac_delay (e : Int) {x : AV} {dx : Nat} {Ax : List AV} {Ox : List (Int × Nat)} {Kx : List Nat} (Hx : ActsOk x dx Ax Ox Kx) : ActsOk (.tup [.str 30, sig e, x]) (dx + 6) (.tup [.str 30, sig e] :: (Ax)) (Ox) (Kx) := by
  intro W n ns a f f0 f1 A O K σ Q hn ha hf h0 h1 n1 n2 n3 n4 n5 n6 lA lO lK h
  obtain ⟨n, rfl⟩ : ∃ j, n = j + 1 := ex_add (by exact (lin [_, _] [.le (.a (.v 0) (.n 6)) (.v 1)] (.n 1) (.v 1) (.refl true) hn))
  try simp only [List.length_append, List.length_cons] at lA lO lK
  have Dx : dx ≤ n := by exact (lin [_, _] [.le (.a (.v 0) (.n 6)) (.a (.v 1) (.n 1))] (.v 0) (.v 1) (.refl true) hn)
  refine enter ?_
  refine app1 (by tm_at "l") (by tm_at "w") ?_
  refine Hx W n ns a f f0 f1 _ _ _ _ _ Dx (by tm_at "l") (by tm_at "l") (by tm_at "l") (by tm_at "l") n1 n2 n3 n4 n5 n6 (by first | fail | (simp; exact (lin [_, _] [.le (.a (.v 0) (.a (.v 1) (.n 1))) (.n 1000000)] (.a (.a (.v 0) (.n 1)) (.v 1)) (.n 1000000) (.refl true) lA))) (by first | exact lO | (simp; fail)) (by first | exact lK | (simp; fail)) fun σ0 F0 ha0 h00 h10 => ?_
  have hf0 : σ0[f]? = some (.list [.cell f0, .cell f1]) := by tm_at "l"
  skip
  exact h _ (by tm_at "f") (by tm_at "p") (by tm_at "p") (by tm_at "p")
theorem ac_wait (e : Int) {x : AV} {dx : Nat} {Ax : List AV} {Ox : List (Int × Nat)} {Kx : List Nat} (Hx : ActsOk x dx Ax Ox Kx) : ActsOk (.tup [.str 46, sig e, x]) (dx + 6) (.tup [.str 46, sig e] :: (Ax)) (Ox) (Kx) := by
  intro W n ns a f f0 f1 A O K σ Q hn ha hf h0 h1 n1 n2 n3 n4 n5 n6 lA lO lK h
  obtain ⟨n, rfl⟩ : ∃ j, n = j + 1 := ex_add (by exact (lin [_, _] [.le (.a (.v 0) (.n 6)) (.v 1)] (.n 1) (.v 1) (.refl true) hn))
  try simp only [List.length_append, List.length_cons] at lA lO lK
  have Dx : dx ≤ n := by exact (lin [_, _] [.le (.a (.v 0) (.n 6)) (.a (.v 1) (.n 1))] (.v 0) (.v 1) (.refl true) hn)
  refine enter ?_
  refine app1 (by tm_at "l") (by tm_at "w") ?_
  refine Hx W n ns a f f0 f1 _ _ _ _ _ Dx (by tm_at "l") (by tm_at "l") (by tm_at "l") (by tm_at "l") n1 n2 n3 n4 n5 n6 (by first | fail | (simp; exact (lin [_, _] [.le (.a (.v 0) (.a (.v 1) (.n 1))) (.n 1000000)] (.a (.a (.v 0) (.n 1)) (.v 1)) (.n 1000000) (.refl true) lA))) (by first | exact lO | (simp; fail)) (by first | exact lK | (simp; fail)) fun σ0 F0 ha0 h00 h10 => ?_
  have hf0 : σ0[f]? = some (.list [.cell f0, .cell f1]) := by tm_at "l"
  skip
  exact h _ (by tm_at "f") (by tm_at "p") (by tm_at "p") (by tm_at "p")
theorem ac_await (e : Int) {x : AV} {dx : Nat} {Ax : List AV} {Ox : List (Int × Nat)} {Kx : List Nat} (Hx : ActsOk x dx Ax Ox Kx) : ActsOk (.tup [.str 31, anyEv e, x]) (dx + 6) (.tup [.str 31, anyEv e] :: (Ax)) (Ox) (Kx) := by
  intro W n ns a f f0 f1 A O K σ Q hn ha hf h0 h1 n1 n2 n3 n4 n5 n6 lA lO lK h
  obtain ⟨n, rfl⟩ : ∃ j, n = j + 1 := ex_add (by exact (lin [_, _] [.le (.a (.v 0) (.n 6)) (.v 1)] (.n 1) (.v 1) (.refl true) hn))
  try simp only [List.length_append, List.length_cons] at lA lO lK
  have Dx : dx ≤ n := by exact (lin [_, _] [.le (.a (.v 0) (.n 6)) (.a (.v 1) (.n 1))] (.v 0) (.v 1) (.refl true) hn)
  refine enter ?_
  refine app1 (by tm_at "l") (by tm_at "w") ?_
  refine Hx W n ns a f f0 f1 _ _ _ _ _ Dx (by tm_at "l") (by tm_at "l") (by tm_at "l") (by tm_at "l") n1 n2 n3 n4 n5 n6 (by first | fail | (simp; exact (lin [_, _] [.le (.a (.v 0) (.a (.v 1) (.n 1))) (.n 1000000)] (.a (.a (.v 0) (.n 1)) (.v 1)) (.n 1000000) (.refl true) lA))) (by first | exact lO | (simp; fail)) (by first | exact lK | (simp; fail)) fun σ0 F0 ha0 h00 h10 => ?_
  have hf0 : σ0[f]? = some (.list [.cell f0, .cell f1]) := by tm_at "l"
  skip
  exact h _ (by tm_at "f") (by tm_at "p") (by tm_at "p") (by tm_at "p")
theorem ac_caseA0  {x : AV} {dx : Nat} {Ax : List AV} {Ox : List (Int × Nat)} {Kx : List Nat} (Hx : ActsOk x dx Ax Ox Kx) {y : AV} {dy : Nat} {Ay : List AV} {Oy : List (Int × Nat)} {Ky : List Nat} (Hy : ActsOk y dy Ay Oy Ky) : ActsOk (.tup [.str 37, .str 38, cst 5, .tup [.tup [.tup [cst 1, cst 2], x], .tup [.tup [cst 3], y]]]) (max (dx) dy + 6) (Ax ++ (Ay)) (Ox ++ (Oy)) (Kx ++ (Ky)) := by
  intro W n ns a f f0 f1 A O K σ Q hn ha hf h0 h1 n1 n2 n3 n4 n5 n6 lA lO lK h
  obtain ⟨n, rfl⟩ : ∃ j, n = j + 1 := ex_add (by exact (lin [_, _] [.le (.a (.v 0) (.n 6)) (.v 1)] (.n 1) (.v 1) (.refl true) hn))
  try simp only [List.length_append, List.length_cons] at lA lO lK
  have Dx : dx ≤ n := by exact (lin [_, _, _] [.le (.v 0) (.v 1), .le (.a (.v 1) (.n 6)) (.a (.v 2) (.n 1))] (.v 0) (.v 2) (.refl true) (Nat.le_max_left _ _) hn)
  have Dy : dy ≤ n := by exact (lin [_, _, _] [.le (.v 0) (.v 1), .le (.a (.v 1) (.n 6)) (.a (.v 2) (.n 1))] (.v 0) (.v 2) (.refl true) (Nat.le_max_right _ _) hn)
  refine enter ?_
  refine newL fun vq1 vs1 vF1 vl1 vg1 => ?_; refine And.intro (by tm_at "w") ?_; refine And.intro (by tm_at "w") ?_; refine newL fun vq2 vs2 vF2 vl2 vg2 => ?_; refine gL (by tm_at "l") ?_; refine gL (by tm_at "l") ?_; refine And.intro (by tm_at "w") ?_; refine newL fun vq3 vs3 vF3 vl3 vg3 => ?_; refine gL (by tm_at "l") ?_; refine And.intro (by tm_at "l") ?_
  refine Hx W n ns a f f0 f1 _ _ _ _ _ Dx (by tm_at "l") (by tm_at "l") (by tm_at "l") (by tm_at "l") n1 n2 n3 n4 n5 n6 (by first | exact (lin [_, _, _] [.le (.a (.v 0) (.a (.v 1) (.v 2))) (.n 1000000)] (.a (.v 0) (.v 1)) (.n 1000000) (.refl true) lA) | (simp; fail)) (by first | exact (lin [_, _, _] [.le (.a (.v 0) (.a (.v 1) (.v 2))) (.n 1000000)] (.a (.v 0) (.v 1)) (.n 1000000) (.refl true) lO) | (simp; fail)) (by first | exact (lin [_, _, _] [.le (.a (.v 0) (.a (.v 1) (.v 2))) (.n 1000000)] (.a (.v 0) (.v 1)) (.n 1000000) (.refl true) lK) | (simp; fail)) fun σ0 F0 ha0 h00 h10 => ?_
  have hf0 : σ0[f]? = some (.list [.cell f0, .cell f1]) := by tm_at "l"
  refine And.intro (by tm_at "l") ?_
  refine Hy W n ns a f f0 f1 _ _ _ _ _ Dy (by tm_at "l") (by tm_at "l") (by tm_at "l") (by tm_at "l") n1 n2 n3 n4 n5 n6 (by first | fail | (simp; exact (lin [_, _, _] [.le (.a (.v 0) (.a (.v 1) (.v 2))) (.n 1000000)] (.a (.a (.v 0) (.v 1)) (.v 2)) (.n 1000000) (.refl true) lA))) (by first | fail | (simp; exact (lin [_, _, _] [.le (.a (.v 0) (.a (.v 1) (.v 2))) (.n 1000000)] (.a (.a (.v 0) (.v 1)) (.v 2)) (.n 1000000) (.refl true) lO))) (by first | fail | (simp; exact (lin [_, _, _] [.le (.a (.v 0) (.a (.v 1) (.v 2))) (.n 1000000)] (.a (.a (.v 0) (.v 1)) (.v 2)) (.n 1000000) (.refl true) lK))) fun σ1 F1 ha1 h01 h11 => ?_
  have hf1 : σ1[f]? = some (.list [.cell f0, .cell f1]) := by tm_at "l"
  refine And.intro (by tm_at "l") ?_
  exact h _ (by tm_at "f") (by tm_at "p") (by tm_at "p") (by tm_at "p")
theorem ac_caseB0  {d : AV} {dd : Nat} {Ad : List AV} {Od : List (Int × Nat)} {Kd : List Nat} (Hd : ActsOk d dd Ad Od Kd) {x : AV} {dx : Nat} {Ax : List AV} {Ox : List (Int × Nat)} {Kx : List Nat} (Hx : ActsOk x dx Ax Ox Kx) {y : AV} {dy : Nat} {Ay : List AV} {Oy : List (Int × Nat)} {Ky : List Nat} (Hy : ActsOk y dy Ay Oy Ky) : ActsOk (.tup [.str 37, .str 38, cst 5, .tup [.tup [.none, d], .tup [.tup [cst 1, cst 2], x], .tup [.tup [cst 3], y]]]) (max (max (dd) dx) dy + 6) (Ad ++ (Ax ++ (Ay))) (Od ++ (Ox ++ (Oy))) (Kd ++ (Kx ++ (Ky))) := by
  intro W n ns a f f0 f1 A O K σ Q hn ha hf h0 h1 n1 n2 n3 n4 n5 n6 lA lO lK h
  obtain ⟨n, rfl⟩ : ∃ j, n = j + 1 := ex_add (by exact (lin [_, _] [.le (.a (.v 0) (.n 6)) (.v 1)] (.n 1) (.v 1) (.refl true) hn))
  try simp only [List.length_append, List.length_cons] at lA lO lK
  have D0 : max dd dx ≤ n := by exact (lin [_, _, _] [.le (.v 0) (.v 1), .le (.a (.v 1) (.n 6)) (.a (.v 2) (.n 1))] (.v 0) (.v 2) (.refl true) (Nat.le_max_left _ _) hn)
  have Dd : dd ≤ n := Nat.le_trans (Nat.le_max_left _ _) D0
  have Dx : dx ≤ n := Nat.le_trans (Nat.le_max_right _ _) D0
  have Dy : dy ≤ n := by exact (lin [_, _, _] [.le (.v 0) (.v 1), .le (.a (.v 1) (.n 6)) (.a (.v 2) (.n 1))] (.v 0) (.v 2) (.refl true) (Nat.le_max_right _ _) hn)
  refine enter ?_
  refine And.intro (by tm_at "w") ?_; refine newL fun vq1 vs1 vF1 vl1 vg1 => ?_; refine And.intro (by tm_at "w") ?_; refine And.intro (by tm_at "w") ?_; refine newL fun vq2 vs2 vF2 vl2 vg2 => ?_; refine gL (by tm_at "l") ?_; refine gL (by tm_at "l") ?_; refine And.intro (by tm_at "w") ?_; refine newL fun vq3 vs3 vF3 vl3 vg3 => ?_; refine gL (by tm_at "l") ?_; refine And.intro (by tm_at "l") ?_
  refine Hd W n ns a f f0 f1 _ _ _ _ _ Dd (by tm_at "l") (by tm_at "l") (by tm_at "l") (by tm_at "l") n1 n2 n3 n4 n5 n6 (by first | exact (lin [_, _, _, _] [.le (.a (.v 0) (.a (.v 1) (.a (.v 2) (.v 3)))) (.n 1000000)] (.a (.v 0) (.v 1)) (.n 1000000) (.refl true) lA) | (simp; fail)) (by first | exact (lin [_, _, _, _] [.le (.a (.v 0) (.a (.v 1) (.a (.v 2) (.v 3)))) (.n 1000000)] (.a (.v 0) (.v 1)) (.n 1000000) (.refl true) lO) | (simp; fail)) (by first | exact (lin [_, _, _, _] [.le (.a (.v 0) (.a (.v 1) (.a (.v 2) (.v 3)))) (.n 1000000)] (.a (.v 0) (.v 1)) (.n 1000000) (.refl true) lK) | (simp; fail)) fun σ0 F0 ha0 h00 h10 => ?_
  have hf0 : σ0[f]? = some (.list [.cell f0, .cell f1]) := by tm_at "l"
  refine And.intro (by tm_at "l") ?_
  refine Hx W n ns a f f0 f1 _ _ _ _ _ Dx (by tm_at "l") (by tm_at "l") (by tm_at "l") (by tm_at "l") n1 n2 n3 n4 n5 n6 (by first | fail | (simp; exact (lin [_, _, _, _] [.le (.a (.v 0) (.a (.v 1) (.a (.v 2) (.v 3)))) (.n 1000000)] (.a (.a (.v 0) (.v 1)) (.v 2)) (.n 1000000) (.refl true) lA))) (by first | fail | (simp; exact (lin [_, _, _, _] [.le (.a (.v 0) (.a (.v 1) (.a (.v 2) (.v 3)))) (.n 1000000)] (.a (.a (.v 0) (.v 1)) (.v 2)) (.n 1000000) (.refl true) lO))) (by first | fail | (simp; exact (lin [_, _, _, _] [.le (.a (.v 0) (.a (.v 1) (.a (.v 2) (.v 3)))) (.n 1000000)] (.a (.a (.v 0) (.v 1)) (.v 2)) (.n 1000000) (.refl true) lK))) fun σ1 F1 ha1 h01 h11 => ?_
  have hf1 : σ1[f]? = some (.list [.cell f0, .cell f1]) := by tm_at "l"
  refine And.intro (by tm_at "l") ?_
  refine Hy W n ns a f f0 f1 _ _ _ _ _ Dy (by tm_at "l") (by tm_at "l") (by tm_at "l") (by tm_at "l") n1 n2 n3 n4 n5 n6 (by first | fail | (simp; exact (lin [_, _, _, _] [.le (.a (.v 0) (.a (.v 1) (.a (.v 2) (.v 3)))) (.n 1000000)] (.a (.a (.v 0) (.a (.v 1) (.v 2))) (.v 3)) (.n 1000000) (.refl true) lA))) (by first | fail | (simp; exact (lin [_, _, _, _] [.le (.a (.v 0) (.a (.v 1) (.a (.v 2) (.v 3)))) (.n 1000000)] (.a (.a (.v 0) (.a (.v 1) (.v 2))) (.v 3)) (.n 1000000) (.refl true) lO))) (by first | fail | (simp; exact (lin [_, _, _, _] [.le (.a (.v 0) (.a (.v 1) (.a (.v 2) (.v 3)))) (.n 1000000)] (.a (.a (.v 0) (.a (.v 1) (.v 2))) (.v 3)) (.n 1000000) (.refl true) lK))) fun σ2 F2 ha2 h02 h12 => ?_
  have hf2 : σ2[f]? = some (.list [.cell f0, .cell f1]) := by tm_at "l"
  refine And.intro (by tm_at "l") ?_
  exact h _ (by tm_at "f") (by tm_at "p") (by tm_at "p") (by tm_at "p")
theorem ac_caseC0  {d : AV} {dd : Nat} {Ad : List AV} {Od : List (Int × Nat)} {Kd : List Nat} (Hd : ActsOk d dd Ad Od Kd) {x : AV} {dx : Nat} {Ax : List AV} {Ox : List (Int × Nat)} {Kx : List Nat} (Hx : ActsOk x dx Ax Ox Kx) : ActsOk (.tup [.str 37, .str 38, cst 5, .tup [.tup [.tup [cst 1, cst 2], x], .tup [.none, d]]]) (max (dd) dx + 6) (Ad ++ (Ax)) (Od ++ (Ox)) (Kd ++ (Kx)) := by
  intro W n ns a f f0 f1 A O K σ Q hn ha hf h0 h1 n1 n2 n3 n4 n5 n6 lA lO lK h
  obtain ⟨n, rfl⟩ : ∃ j, n = j + 1 := ex_add (by exact (lin [_, _] [.le (.a (.v 0) (.n 6)) (.v 1)] (.n 1) (.v 1) (.refl true) hn))
  try simp only [List.length_append, List.length_cons] at lA lO lK
  have Dd : dd ≤ n := by exact (lin [_, _, _] [.le (.v 0) (.v 1), .le (.a (.v 1) (.n 6)) (.a (.v 2) (.n 1))] (.v 0) (.v 2) (.refl true) (Nat.le_max_left _ _) hn)
  have Dx : dx ≤ n := by exact (lin [_, _, _] [.le (.v 0) (.v 1), .le (.a (.v 1) (.n 6)) (.a (.v 2) (.n 1))] (.v 0) (.v 2) (.refl true) (Nat.le_max_right _ _) hn)
  refine enter ?_
  refine And.intro (by tm_at "w") ?_; refine newL fun vq1 vs1 vF1 vl1 vg1 => ?_; refine And.intro (by tm_at "w") ?_; refine newL fun vq2 vs2 vF2 vl2 vg2 => ?_; refine gL (by tm_at "l") ?_; refine gL (by tm_at "l") ?_; refine And.intro (by tm_at "w") ?_; refine newL fun vq3 vs3 vF3 vl3 vg3 => ?_; refine gL (by tm_at "l") ?_; refine And.intro (by tm_at "l") ?_
  refine Hd W n ns a f f0 f1 _ _ _ _ _ Dd (by tm_at "l") (by tm_at "l") (by tm_at "l") (by tm_at "l") n1 n2 n3 n4 n5 n6 (by first | exact (lin [_, _, _] [.le (.a (.v 0) (.a (.v 1) (.v 2))) (.n 1000000)] (.a (.v 0) (.v 1)) (.n 1000000) (.refl true) lA) | (simp; fail)) (by first | exact (lin [_, _, _] [.le (.a (.v 0) (.a (.v 1) (.v 2))) (.n 1000000)] (.a (.v 0) (.v 1)) (.n 1000000) (.refl true) lO) | (simp; fail)) (by first | exact (lin [_, _, _] [.le (.a (.v 0) (.a (.v 1) (.v 2))) (.n 1000000)] (.a (.v 0) (.v 1)) (.n 1000000) (.refl true) lK) | (simp; fail)) fun σ0 F0 ha0 h00 h10 => ?_
  have hf0 : σ0[f]? = some (.list [.cell f0, .cell f1]) := by tm_at "l"
  refine And.intro (by tm_at "l") ?_
  refine Hx W n ns a f f0 f1 _ _ _ _ _ Dx (by tm_at "l") (by tm_at "l") (by tm_at "l") (by tm_at "l") n1 n2 n3 n4 n5 n6 (by first | fail | (simp; exact (lin [_, _, _] [.le (.a (.v 0) (.a (.v 1) (.v 2))) (.n 1000000)] (.a (.a (.v 0) (.v 1)) (.v 2)) (.n 1000000) (.refl true) lA))) (by first | fail | (simp; exact (lin [_, _, _] [.le (.a (.v 0) (.a (.v 1) (.v 2))) (.n 1000000)] (.a (.a (.v 0) (.v 1)) (.v 2)) (.n 1000000) (.refl true) lO))) (by first | fail | (simp; exact (lin [_, _, _] [.le (.a (.v 0) (.a (.v 1) (.v 2))) (.n 1000000)] (.a (.a (.v 0) (.v 1)) (.v 2)) (.n 1000000) (.refl true) lK))) fun σ1 F1 ha1 h01 h11 => ?_
  have hf1 : σ1[f]? = some (.list [.cell f0, .cell f1]) := by tm_at "l"
  refine And.intro (by tm_at "l") ?_
  exact h _ (by tm_at "f") (by tm_at "p") (by tm_at "p") (by tm_at "p")
theorem ac_caseA1 (e : Int) {x : AV} {dx : Nat} {Ax : List AV} {Ox : List (Int × Nat)} {Kx : List Nat} (Hx : ActsOk x dx Ax Ox Kx) {y : AV} {dy : Nat} {Ay : List AV} {Oy : List (Int × Nat)} {Ky : List Nat} (Hy : ActsOk y dy Ay Oy Ky) : ActsOk (.tup [.str 37, .str 38, sig e, .tup [.tup [.tup [cst 1, cst 2], x], .tup [.tup [cst 3], y]]]) (max (dx) dy + 6) (.tup [.str 47, sig e] :: (Ax ++ (Ay))) (Ox ++ (Oy)) (Kx ++ (Ky)) := by
  intro W n ns a f f0 f1 A O K σ Q hn ha hf h0 h1 n1 n2 n3 n4 n5 n6 lA lO lK h
  obtain ⟨n, rfl⟩ : ∃ j, n = j + 1 := ex_add (by exact (lin [_, _] [.le (.a (.v 0) (.n 6)) (.v 1)] (.n 1) (.v 1) (.refl true) hn))
  try simp only [List.length_append, List.length_cons] at lA lO lK
  have Dx : dx ≤ n := by exact (lin [_, _, _] [.le (.v 0) (.v 1), .le (.a (.v 1) (.n 6)) (.a (.v 2) (.n 1))] (.v 0) (.v 2) (.refl true) (Nat.le_max_left _ _) hn)
  have Dy : dy ≤ n := by exact (lin [_, _, _] [.le (.v 0) (.v 1), .le (.a (.v 1) (.n 6)) (.a (.v 2) (.n 1))] (.v 0) (.v 2) (.refl true) (Nat.le_max_right _ _) hn)
  refine enter ?_
  refine app1 (by tm_at "l") (by tm_at "w") ?_; refine newL fun vq1 vs1 vF1 vl1 vg1 => ?_; refine And.intro (by tm_at "w") ?_; refine And.intro (by tm_at "w") ?_; refine newL fun vq2 vs2 vF2 vl2 vg2 => ?_; refine gL (by tm_at "l") ?_; refine gL (by tm_at "l") ?_; refine And.intro (by tm_at "w") ?_; refine newL fun vq3 vs3 vF3 vl3 vg3 => ?_; refine gL (by tm_at "l") ?_; refine And.intro (by tm_at "l") ?_
  refine Hx W n ns a f f0 f1 _ _ _ _ _ Dx (by tm_at "l") (by tm_at "l") (by tm_at "l") (by tm_at "l") n1 n2 n3 n4 n5 n6 (by first | fail | (simp; exact (lin [_, _, _] [.le (.a (.v 0) (.a (.a (.v 1) (.v 2)) (.n 1))) (.n 1000000)] (.a (.a (.v 0) (.n 1)) (.v 1)) (.n 1000000) (.refl true) lA))) (by first | exact (lin [_, _, _] [.le (.a (.v 0) (.a (.v 1) (.v 2))) (.n 1000000)] (.a (.v 0) (.v 1)) (.n 1000000) (.refl true) lO) | (simp; fail)) (by first | exact (lin [_, _, _] [.le (.a (.v 0) (.a (.v 1) (.v 2))) (.n 1000000)] (.a (.v 0) (.v 1)) (.n 1000000) (.refl true) lK) | (simp; fail)) fun σ0 F0 ha0 h00 h10 => ?_
  have hf0 : σ0[f]? = some (.list [.cell f0, .cell f1]) := by tm_at "l"
  refine And.intro (by tm_at "l") ?_
  refine Hy W n ns a f f0 f1 _ _ _ _ _ Dy (by tm_at "l") (by tm_at "l") (by tm_at "l") (by tm_at "l") n1 n2 n3 n4 n5 n6 (by first | fail | (simp; exact (lin [_, _, _] [.le (.a (.v 0) (.a (.a (.v 1) (.v 2)) (.n 1))) (.n 1000000)] (.a (.a (.v 0) (.a (.v 1) (.n 1))) (.v 2)) (.n 1000000) (.refl true) lA))) (by first | fail | (simp; exact (lin [_, _, _] [.le (.a (.v 0) (.a (.v 1) (.v 2))) (.n 1000000)] (.a (.a (.v 0) (.v 1)) (.v 2)) (.n 1000000) (.refl true) lO))) (by first | fail | (simp; exact (lin [_, _, _] [.le (.a (.v 0) (.a (.v 1) (.v 2))) (.n 1000000)] (.a (.a (.v 0) (.v 1)) (.v 2)) (.n 1000000) (.refl true) lK))) fun σ1 F1 ha1 h01 h11 => ?_
  have hf1 : σ1[f]? = some (.list [.cell f0, .cell f1]) := by tm_at "l"
  refine And.intro (by tm_at "l") ?_
  exact h _ (by tm_at "f") (by tm_at "p") (by tm_at "p") (by tm_at "p")
theorem ac_caseB1 (e : Int) {d : AV} {dd : Nat} {Ad : List AV} {Od : List (Int × Nat)} {Kd : List Nat} (Hd : ActsOk d dd Ad Od Kd) {x : AV} {dx : Nat} {Ax : List AV} {Ox : List (Int × Nat)} {Kx : List Nat} (Hx : ActsOk x dx Ax Ox Kx) {y : AV} {dy : Nat} {Ay : List AV} {Oy : List (Int × Nat)} {Ky : List Nat} (Hy : ActsOk y dy Ay Oy Ky) : ActsOk (.tup [.str 37, .str 38, sig e, .tup [.tup [.none, d], .tup [.tup [cst 1, cst 2], x], .tup [.tup [cst 3], y]]]) (max (max (dd) dx) dy + 6) (.tup [.str 47, sig e] :: (Ad ++ (Ax ++ (Ay)))) (Od ++ (Ox ++ (Oy))) (Kd ++ (Kx ++ (Ky))) := by
  intro W n ns a f f0 f1 A O K σ Q hn ha hf h0 h1 n1 n2 n3 n4 n5 n6 lA lO lK h
  obtain ⟨n, rfl⟩ : ∃ j, n = j + 1 := ex_add (by exact (lin [_, _] [.le (.a (.v 0) (.n 6)) (.v 1)] (.n 1) (.v 1) (.refl true) hn))
  try simp only [List.length_append, List.length_cons] at lA lO lK
  have D0 : max dd dx ≤ n := by exact (lin [_, _, _] [.le (.v 0) (.v 1), .le (.a (.v 1) (.n 6)) (.a (.v 2) (.n 1))] (.v 0) (.v 2) (.refl true) (Nat.le_max_left _ _) hn)
  have Dd : dd ≤ n := Nat.le_trans (Nat.le_max_left _ _) D0
  have Dx : dx ≤ n := Nat.le_trans (Nat.le_max_right _ _) D0
  have Dy : dy ≤ n := by exact (lin [_, _, _] [.le (.v 0) (.v 1), .le (.a (.v 1) (.n 6)) (.a (.v 2) (.n 1))] (.v 0) (.v 2) (.refl true) (Nat.le_max_right _ _) hn)
  refine enter ?_
  refine app1 (by tm_at "l") (by tm_at "w") ?_; refine And.intro (by tm_at "w") ?_; refine newL fun vq1 vs1 vF1 vl1 vg1 => ?_; refine And.intro (by tm_at "w") ?_; refine And.intro (by tm_at "w") ?_; refine newL fun vq2 vs2 vF2 vl2 vg2 => ?_; refine gL (by tm_at "l") ?_; refine gL (by tm_at "l") ?_; refine And.intro (by tm_at "w") ?_; refine newL fun vq3 vs3 vF3 vl3 vg3 => ?_; refine gL (by tm_at "l") ?_; refine And.intro (by tm_at "l") ?_
  refine Hd W n ns a f f0 f1 _ _ _ _ _ Dd (by tm_at "l") (by tm_at "l") (by tm_at "l") (by tm_at "l") n1 n2 n3 n4 n5 n6 (by first | fail | (simp; exact (lin [_, _, _, _] [.le (.a (.v 0) (.a (.a (.v 1) (.a (.v 2) (.v 3))) (.n 1))) (.n 1000000)] (.a (.a (.v 0) (.n 1)) (.v 1)) (.n 1000000) (.refl true) lA))) (by first | exact (lin [_, _, _, _] [.le (.a (.v 0) (.a (.v 1) (.a (.v 2) (.v 3)))) (.n 1000000)] (.a (.v 0) (.v 1)) (.n 1000000) (.refl true) lO) | (simp; fail)) (by first | exact (lin [_, _, _, _] [.le (.a (.v 0) (.a (.v 1) (.a (.v 2) (.v 3)))) (.n 1000000)] (.a (.v 0) (.v 1)) (.n 1000000) (.refl true) lK) | (simp; fail)) fun σ0 F0 ha0 h00 h10 => ?_
  have hf0 : σ0[f]? = some (.list [.cell f0, .cell f1]) := by tm_at "l"
  refine And.intro (by tm_at "l") ?_
  refine Hx W n ns a f f0 f1 _ _ _ _ _ Dx (by tm_at "l") (by tm_at "l") (by tm_at "l") (by tm_at "l") n1 n2 n3 n4 n5 n6 (by first | fail | (simp; exact (lin [_, _, _, _] [.le (.a (.v 0) (.a (.a (.v 1) (.a (.v 2) (.v 3))) (.n 1))) (.n 1000000)] (.a (.a (.v 0) (.a (.v 1) (.n 1))) (.v 2)) (.n 1000000) (.refl true) lA))) (by first | fail | (simp; exact (lin [_, _, _, _] [.le (.a (.v 0) (.a (.v 1) (.a (.v 2) (.v 3)))) (.n 1000000)] (.a (.a (.v 0) (.v 1)) (.v 2)) (.n 1000000) (.refl true) lO))) (by first | fail | (simp; exact (lin [_, _, _, _] [.le (.a (.v 0) (.a (.v 1) (.a (.v 2) (.v 3)))) (.n 1000000)] (.a (.a (.v 0) (.v 1)) (.v 2)) (.n 1000000) (.refl true) lK))) fun σ1 F1 ha1 h01 h11 => ?_
  have hf1 : σ1[f]? = some (.list [.cell f0, .cell f1]) := by tm_at "l"
  refine And.intro (by tm_at "l") ?_
  refine Hy W n ns a f f0 f1 _ _ _ _ _ Dy (by tm_at "l") (by tm_at "l") (by tm_at "l") (by tm_at "l") n1 n2 n3 n4 n5 n6 (by first | fail | (simp; exact (lin [_, _, _, _] [.le (.a (.v 0) (.a (.a (.v 1) (.a (.v 2) (.v 3))) (.n 1))) (.n 1000000)] (.a (.a (.v 0) (.a (.a (.v 1) (.v 2)) (.n 1))) (.v 3)) (.n 1000000) (.refl true) lA))) (by first | fail | (simp; exact (lin [_, _, _, _] [.le (.a (.v 0) (.a (.v 1) (.a (.v 2) (.v 3)))) (.n 1000000)] (.a (.a (.v 0) (.a (.v 1) (.v 2))) (.v 3)) (.n 1000000) (.refl true) lO))) (by first | fail | (simp; exact (lin [_, _, _, _] [.le (.a (.v 0) (.a (.v 1) (.a (.v 2) (.v 3)))) (.n 1000000)] (.a (.a (.v 0) (.a (.v 1) (.v 2))) (.v 3)) (.n 1000000) (.refl true) lK))) fun σ2 F2 ha2 h02 h12 => ?_
  have hf2 : σ2[f]? = some (.list [.cell f0, .cell f1]) := by tm_at "l"
  refine And.intro (by tm_at "l") ?_
  exact h _ (by tm_at "f") (by tm_at "p") (by tm_at "p") (by tm_at "p")
theorem ac_caseC1 (e : Int) {d : AV} {dd : Nat} {Ad : List AV} {Od : List (Int × Nat)} {Kd : List Nat} (Hd : ActsOk d dd Ad Od Kd) {x : AV} {dx : Nat} {Ax : List AV} {Ox : List (Int × Nat)} {Kx : List Nat} (Hx : ActsOk x dx Ax Ox Kx) : ActsOk (.tup [.str 37, .str 38, sig e, .tup [.tup [.tup [cst 1, cst 2], x], .tup [.none, d]]]) (max (dd) dx + 6) (.tup [.str 47, sig e] :: (Ad ++ (Ax))) (Od ++ (Ox)) (Kd ++ (Kx)) := by
  intro W n ns a f f0 f1 A O K σ Q hn ha hf h0 h1 n1 n2 n3 n4 n5 n6 lA lO lK h
  obtain ⟨n, rfl⟩ : ∃ j, n = j + 1 := ex_add (by exact (lin [_, _] [.le (.a (.v 0) (.n 6)) (.v 1)] (.n 1) (.v 1) (.refl true) hn))
  try simp only [List.length_append, List.length_cons] at lA lO lK
  have Dd : dd ≤ n := by exact (lin [_, _, _] [.le (.v 0) (.v 1), .le (.a (.v 1) (.n 6)) (.a (.v 2) (.n 1))] (.v 0) (.v 2) (.refl true) (Nat.le_max_left _ _) hn)
  have Dx : dx ≤ n := by exact (lin [_, _, _] [.le (.v 0) (.v 1), .le (.a (.v 1) (.n 6)) (.a (.v 2) (.n 1))] (.v 0) (.v 2) (.refl true) (Nat.le_max_right _ _) hn)
  refine enter ?_
  refine app1 (by tm_at "l") (by tm_at "w") ?_; refine And.intro (by tm_at "w") ?_; refine newL fun vq1 vs1 vF1 vl1 vg1 => ?_; refine And.intro (by tm_at "w") ?_; refine newL fun vq2 vs2 vF2 vl2 vg2 => ?_; refine gL (by tm_at "l") ?_; refine gL (by tm_at "l") ?_; refine And.intro (by tm_at "w") ?_; refine newL fun vq3 vs3 vF3 vl3 vg3 => ?_; refine gL (by tm_at "l") ?_; refine And.intro (by tm_at "l") ?_
  refine Hd W n ns a f f0 f1 _ _ _ _ _ Dd (by tm_at "l") (by tm_at "l") (by tm_at "l") (by tm_at "l") n1 n2 n3 n4 n5 n6 (by first | fail | (simp; exact (lin [_, _, _] [.le (.a (.v 0) (.a (.a (.v 1) (.v 2)) (.n 1))) (.n 1000000)] (.a (.a (.v 0) (.n 1)) (.v 1)) (.n 1000000) (.refl true) lA))) (by first | exact (lin [_, _, _] [.le (.a (.v 0) (.a (.v 1) (.v 2))) (.n 1000000)] (.a (.v 0) (.v 1)) (.n 1000000) (.refl true) lO) | (simp; fail)) (by first | exact (lin [_, _, _] [.le (.a (.v 0) (.a (.v 1) (.v 2))) (.n 1000000)] (.a (.v 0) (.v 1)) (.n 1000000) (.refl true) lK) | (simp; fail)) fun σ0 F0 ha0 h00 h10 => ?_
  have hf0 : σ0[f]? = some (.list [.cell f0, .cell f1]) := by tm_at "l"
  refine And.intro (by tm_at "l") ?_
  refine Hx W n ns a f f0 f1 _ _ _ _ _ Dx (by tm_at "l") (by tm_at "l") (by tm_at "l") (by tm_at "l") n1 n2 n3 n4 n5 n6 (by first | fail | (simp; exact (lin [_, _, _] [.le (.a (.v 0) (.a (.a (.v 1) (.v 2)) (.n 1))) (.n 1000000)] (.a (.a (.v 0) (.a (.v 1) (.n 1))) (.v 2)) (.n 1000000) (.refl true) lA))) (by first | fail | (simp; exact (lin [_, _, _] [.le (.a (.v 0) (.a (.v 1) (.v 2))) (.n 1000000)] (.a (.a (.v 0) (.v 1)) (.v 2)) (.n 1000000) (.refl true) lO))) (by first | fail | (simp; exact (lin [_, _, _] [.le (.a (.v 0) (.a (.v 1) (.v 2))) (.n 1000000)] (.a (.a (.v 0) (.v 1)) (.v 2)) (.n 1000000) (.refl true) lK))) fun σ1 F1 ha1 h01 h11 => ?_
  have hf1 : σ1[f]? = some (.list [.cell f0, .cell f1]) := by tm_at "l"
  refine And.intro (by tm_at "l") ?_
  exact h _ (by tm_at "f") (by tm_at "p") (by tm_at "p") (by tm_at "p")
end
-- P18
section
set_option maxHeartbeats 1000000
open PySem
theorem avs_len : ∀ ls : SL, ls.avs.length = ls.num
  | .nil => rfl
  | .cons s r => by simp [SL.avs, SL.num, avs_len r]
theorem ac_block (ls : SL) (c : Option Nat) (hM : AcL ls) : AcS (.block ls c) := by
  show ActsOk (.tup [.str 43, .tup ls.avs, .int (scI c)]) (ls.dep + 6) ls.acts (scOp 22 c ++ ls.op) ls.fk
  intro W n ns a f f0 f1 A O K σ Q hn ha hf h0 h1 n1 n2 n3 n4 n5 n6 lA lO lK h
  obtain ⟨n, rfl⟩ : ∃ j, n = j + 1 := ex_add (by exact (lin [_, _] [.le (.a (.v 0) (.n 6)) (.v 1)] (.n 1) (.v 1) (.refl true) hn))
  have D : ls.dep ≤ n := by exact (lin [_, _] [.le (.a (.v 0) (.n 6)) (.a (.v 1) (.n 1))] (.v 0) (.v 1) (.refl true) hn)
  try simp only [List.length_append, List.length_cons] at lA lO lK
  cases c with
  | none =>
    simp only [scOp, List.length_nil, List.length_cons] at lO
    simp only [scI]
    refine enter ?_
    skip
    refine loop_acts (W := W) (ns := ns) (fun x => [some (.tup [.str 43, .tup ls.avs, .int (-1)]), some (.cell a), some (.cell f), some (.str 43), some (.tup ls.avs), x, none, none]) n1 n2 n3 n4 n5 n6 ?_ ls _ _ _ none _ hM D (by tm_at "l") (by tm_at "l") (by tm_at "l") (by tm_at "l") (fun zz zz zz p => p) (by first | exact lA | (simp; fail)) (by first | exact (lin [_, _] [.le (.a (.v 0) (.a (.n 0) (.v 1))) (.n 1000000)] (.a (.v 0) (.v 1)) (.n 1000000) (.refl true) lO) | (simp; fail)) (by first | exact lK | (simp; fail)) fun x' σ1 F1 ha1 h01 h11 => ?_
    · intro v x σ Q' h
      skip
      refine h.mono fun zz σ1 q => ?_
      skip
      exact q
    · skip
      exact h _ (by tm_at "f") (by tm_at "p") (get_congr (by tm_at "l") (by simp [scOp, scI, pairAV])) (get_congr (by tm_at "l") (by simp [avs_len]))
  | some c =>
    simp only [scOp, List.length_nil, List.length_cons] at lO
    simp only [scI]
    refine enter ?_
    refine gL (by tm_at "l") ?_; refine app1 (by tm_at "l") (by tm_at "w") ?_
    refine loop_acts (W := W) (ns := ns) (fun x => [some (.tup [.str 43, .tup ls.avs, .int (c)]), some (.cell a), some (.cell f), some (.str 43), some (.tup ls.avs), x, none, none]) n1 n2 n3 n4 n5 n6 ?_ ls _ _ _ none _ hM D (by tm_at "l") (by tm_at "l") (by tm_at "l") (by tm_at "l") (fun zz zz zz p => p) (by first | exact lA | (simp; fail)) (by first | fail | (simp; exact (lin [_, _] [.le (.a (.v 0) (.a (.a (.n 0) (.n 1)) (.v 1))) (.n 1000000)] (.a (.a (.v 0) (.n 1)) (.v 1)) (.n 1000000) (.refl true) lO))) (by first | exact lK | (simp; fail)) fun x' σ1 F1 ha1 h01 h11 => ?_
    · intro v x σ Q' h
      skip
      refine h.mono fun zz σ1 q => ?_
      skip
      exact q
    · skip
      exact h _ (by tm_at "f") (by tm_at "p") (get_congr (by tm_at "l") (by simp [scOp, scI, pairAV])) (get_congr (by tm_at "l") (by simp [avs_len]))
theorem ac_fork (ls : SL) (c : Option Nat) (hM : AcL ls) : AcS (.fork ls c) := by
  show ActsOk (.tup [.str 18, .tup ls.avs, .int (scI c)]) (ls.dep + 6) ls.acts (scOp 15 c ++ ls.op) (ls.num :: ls.fk)
  intro W n ns a f f0 f1 A O K σ Q hn ha hf h0 h1 n1 n2 n3 n4 n5 n6 lA lO lK h
  obtain ⟨n, rfl⟩ : ∃ j, n = j + 1 := ex_add (by exact (lin [_, _] [.le (.a (.v 0) (.n 6)) (.v 1)] (.n 1) (.v 1) (.refl true) hn))
  have D : ls.dep ≤ n := by exact (lin [_, _] [.le (.a (.v 0) (.n 6)) (.a (.v 1) (.n 1))] (.v 0) (.v 1) (.refl true) hn)
  try simp only [List.length_append, List.length_cons] at lA lO lK
  cases c with
  | none =>
    simp only [scOp, List.length_nil, List.length_cons] at lO
    simp only [scI]
    refine enter ?_
    refine gL (by tm_at "l") ?_; refine app1 (by tm_at "l") (by tm_at "w") ?_
    refine loop_acts (W := W) (ns := ns) (fun x => [some (.tup [.str 18, .tup ls.avs, .int (-1)]), some (.cell a), some (.cell f), some (.str 18), some (.tup ls.avs), x, none, none]) n1 n2 n3 n4 n5 n6 ?_ ls _ _ _ none _ hM D (by tm_at "l") (by tm_at "l") (by tm_at "l") (by tm_at "l") (fun zz zz zz p => p) (by first | exact lA | (simp; fail)) (by first | exact (lin [_, _] [.le (.a (.v 0) (.a (.n 0) (.v 1))) (.n 1000000)] (.a (.v 0) (.v 1)) (.n 1000000) (.refl true) lO) | (simp; fail)) (by first | fail | (simp; exact (lin [_, _] [.le (.a (.v 0) (.a (.v 1) (.n 1))) (.n 1000000)] (.a (.a (.v 0) (.n 1)) (.v 1)) (.n 1000000) (.refl true) lK))) fun x' σ1 F1 ha1 h01 h11 => ?_
    · intro v x σ Q' h
      skip
      refine h.mono fun zz σ1 q => ?_
      skip
      exact q
    · skip
      exact h _ (by tm_at "f") (by tm_at "p") (get_congr (by tm_at "l") (by simp [scOp, scI, pairAV])) (get_congr (by tm_at "l") (by simp [avs_len]))
  | some c =>
    simp only [scOp, List.length_nil, List.length_cons] at lO
    simp only [scI]
    refine enter ?_
    refine gL (by tm_at "l") ?_; refine app1 (by tm_at "l") (by tm_at "w") ?_; refine gL (by tm_at "l") ?_; refine app1 (by tm_at "l") (by tm_at "w") ?_
    refine loop_acts (W := W) (ns := ns) (fun x => [some (.tup [.str 18, .tup ls.avs, .int (c)]), some (.cell a), some (.cell f), some (.str 18), some (.tup ls.avs), x, none, none]) n1 n2 n3 n4 n5 n6 ?_ ls _ _ _ none _ hM D (by tm_at "l") (by tm_at "l") (by tm_at "l") (by tm_at "l") (fun zz zz zz p => p) (by first | exact lA | (simp; fail)) (by first | fail | (simp; exact (lin [_, _] [.le (.a (.v 0) (.a (.a (.n 0) (.n 1)) (.v 1))) (.n 1000000)] (.a (.a (.v 0) (.n 1)) (.v 1)) (.n 1000000) (.refl true) lO))) (by first | fail | (simp; exact (lin [_, _] [.le (.a (.v 0) (.a (.v 1) (.n 1))) (.n 1000000)] (.a (.a (.v 0) (.n 1)) (.v 1)) (.n 1000000) (.refl true) lK))) fun x' σ1 F1 ha1 h01 h11 => ?_
    · intro v x σ Q' h
      skip
      refine h.mono fun zz σ1 q => ?_
      skip
      exact q
    · skip
      exact h _ (by tm_at "f") (by tm_at "p") (get_congr (by tm_at "l") (by simp [scOp, scI, pairAV])) (get_congr (by tm_at "l") (by simp [avs_len]))
theorem acS_eq {s : S} {v : AV} {d : Nat} {A : List AV} {O : List (Int × Nat)} {K : List Nat} (h : ActsOk v d A O K) (e1 : s.av = v) (e2 : d ≤ s.dep) (e3 : s.acts = A) (e4 : s.op = O) (e5 : s.fk = K) : AcS s := by
  unfold AcS
  rw [e1, e3, e4, e5]
  exact fun W n ns a f f0 f1 A O K σ Q hn => h W n ns a f f0 f1 A O K σ Q (Nat.le_trans e2 hn)
mutual
theorem acS : ∀ s : S, AcS s
  | .none => acS_eq ac_none rfl (by decide : 1 ≤ 1) rfl rfl rfl
  | .pl p => acS_eq (ac_pl p) rfl (by decide : 1 ≤ 4) rfl rfl rfl
  | .ite e a b => acS_eq (ac_if e (acS a) (acS b)) rfl (Nat.le_refl _) rfl rfl rfl
  | .caseA none a c => acS_eq (ac_caseA0 (acS a) (acS c)) rfl (Nat.le_refl _) rfl rfl rfl
  | .caseB none d a c => acS_eq (ac_caseB0 (acS d) (acS a) (acS c)) rfl (Nat.le_of_eq (congrArg (· + 6) (Nat.max_assoc _ _ _))) rfl rfl rfl
  | .caseC none a d => acS_eq (ac_caseC0 (acS d) (acS a)) rfl (Nat.le_of_eq (congrArg (· + 6) (Nat.max_comm _ _))) rfl rfl rfl
  | .caseA (some e) a c => acS_eq (ac_caseA1 e (acS a) (acS c)) rfl (Nat.le_refl _) rfl rfl rfl
  | .caseB (some e) d a c => acS_eq (ac_caseB1 e (acS d) (acS a) (acS c)) rfl (Nat.le_of_eq (congrArg (· + 6) (Nat.max_assoc _ _ _))) rfl rfl rfl
  | .caseC (some e) a d => acS_eq (ac_caseC1 e (acS d) (acS a)) rfl (Nat.le_of_eq (congrArg (· + 6) (Nat.max_comm _ _))) rfl rfl rfl
  | .for_ p e q b => acS_eq (ac_for e (ac_pl p) (acS b) (ac_pl q)) rfl (Nat.add_le_add_right (Nat.max_le.2 ⟨Nat.max_le.2 ⟨Nat.le_trans (by decide : 1 ≤ 4) (Nat.le_max_left _ _), Nat.le_max_right _ _⟩, Nat.le_trans (by decide : 1 ≤ 4) (Nat.le_max_left _ _)⟩) 6) rfl (List.append_nil _).symm (List.append_nil _).symm
  | .while_ e b => acS_eq (ac_while e (acS b)) rfl (Nat.le_refl _) rfl rfl rfl
  | .repeat_ e b => acS_eq (ac_repeat e (acS b)) rfl (Nat.le_refl _) rfl rfl rfl
  | .forever b => acS_eq (ac_forever (acS b)) rfl (Nat.le_refl _) rfl rfl rfl
  | .block l c => ac_block l c (acL l)
  | .fork l c => ac_fork l c (acL l)
  | .delay e b => acS_eq (ac_delay e (acS b)) rfl (Nat.le_refl _) rfl rfl rfl
  | .wait e b => acS_eq (ac_wait e (acS b)) rfl (Nat.le_refl _) rfl rfl rfl
  | .await e b => acS_eq (ac_await e (acS b)) rfl (Nat.le_refl _) rfl rfl rfl
theorem acL : ∀ l : SL, AcL l
  | .nil => trivial
  | .cons s r => ⟨acS s, acL r⟩
end
end
-- P19
section
set_option maxHeartbeats 1000000
open PySem
noncomputable abbrev bagL (x y : Int) (l : List Int) : Cell := .list (.int x :: .int y :: l.map .int)
noncomputable abbrev shopL (a : Int) (u d : Nat) : Cell := .list [.int a, .int u, .int d]
theorem c_law_scope {W n : Nat} {ns : List Int} {σ : Store} {b s : Nat} {x y : Int} {l : List Int} {a : Int} {u d : Nat} {Q : AV → Store → Prop} (hb : σ[b]? = some (bagL x y l)) (hs : σ[s]? = some (shopL a u d)) (hne : b ≠ s)
    (h : ∀ σ' c d' x' y' l', Fm [b, s] σ σ' → σ'[b]? = some (bagL x' y' l') → σ'[s]? = some (shopL a u d') → Q (.int (scI c)) σ') : W2 (run W ns (n + 2) .law_scope [.cell b, .cell s] σ) Q := by
  refine enter ?_
  skip
  refine c_law_pull hb (by decide) fun σ1 got x' y' l' g0 g1 F1 hb1 => ?_
  refine if_d (fun vh => ?_) (fun vh => ?_); rotate_left; refine x_list (by tm_at "l") (by tm_at "s") ?_; refine y_list (by tm_at "l") (by tm_at "w") ?_; refine gL (by tm_at "l") ?_; rotate_left
  · exact h σ1 none d x' y' l' (F1.mono (by simp)) hb1 (F1.get hs (ni1 hne.symm))
  · exact h _ (some (d + 1)) (d + 1) x' y' l' ((F1.mono (by simp)).trans (Fm.set (by simp))) (by tm_at "l") (by tm_at "l")
theorem c_law_plain {W n : Nat} {ns : List Int} {σ : Store} {b s : Nat} {x y : Int} {l : List Int} {a : Int} {u d : Nat} {Q : AV → Store → Prop} (hb : σ[b]? = some (bagL x y l)) (hs : σ[s]? = some (shopL a u d)) (hne : b ≠ s)
    (h : ∀ σ' p a' x' y' l', Fm [b, s] σ σ' → σ'[b]? = some (bagL x' y' l') → σ'[s]? = some (shopL a' u d) → Q (Pl.av p) σ') : W2 (run W ns (n + 2) .law_plain [.cell b, .cell s] σ) Q := by
  refine enter ?_
  skip
  refine c_law_pull hb (by decide) fun σ1 got x1 y1 l1 g0 g1 F1 hb1 => ?_
  have hs1 : σ1[s]? = some (shopL a u d) := F1.get hs (ni1 hne.symm)
  have F1' : Fm [b, s] σ σ1 := F1.mono (by simp)
  have fin : ∀ σ' p a' x' y' l', Fm [b, s] σ1 σ' → σ'[b]? = some (bagL x' y' l') → σ'[s]? = some (shopL a' u d) → Q (Pl.av p) σ' := fun σ' p a' x' y' l' F hb hs => h σ' p a' x' y' l' (F1'.trans F) hb hs
  refine if_d (fun vh => ?_) (fun vh => ?_); rotate_left; refine if_d (fun vh => ?_) (fun vh => ?_); rotate_left; refine if_d (fun vh => ?_) (fun vh => ?_); rotate_left; refine if_d (fun vh => ?_) (fun vh => ?_); rotate_left; refine if_d (fun vh => ?_) (fun vh => ?_); refine x_list (by tm_at "l") (by tm_at "s") ?_; refine y_list (by tm_at "l") (by tm_at "w") ?_; rotate_left; refine if_d (fun vh => ?_) (fun vh => ?_); refine x_list (by tm_at "l") (by tm_at "s") ?_; refine y_list (by tm_at "l") (by tm_at "w") ?_; refine gL (by tm_at "l") ?_; refine gL (by tm_at "l") ?_; rotate_left; rotate_left
  · refine c_law_new hs1 fun σ2 F2 hs2 => ?_
    skip
    exact fin σ2 (.nba0 _) _ _ _ _ (F2.mono (by simp)) (by tm_at "l") hs2
  · refine c_law_new hs1 fun σ2 F2 hs2 => ?_
    skip
    refine c_law_new hs2 fun σ3 F3 hs3 => ?_
    skip
    exact fin σ3 (.nba1 _ _) _ _ _ _ ((F2.trans F3).mono (by simp)) (by tm_at "l") hs3
  · refine c_law_new hs1 fun σ2 F2 hs2 => ?_
    skip
    refine c_law_new hs2 fun σ3 F3 hs3 => ?_
    skip
    exact fin σ3 (.setD _ _ _) _ _ _ _ ((F2.trans F3).mono (by simp)) (by tm_at "l") hs3
  · refine c_law_new hs1 fun σ2 F2 hs2 => ?_
    skip
    refine c_law_new hs2 fun σ3 F3 hs3 => ?_
    skip
    exact fin σ3 (.setA _ _ _) _ _ _ _ ((F2.trans F3).mono (by simp)) (by tm_at "l") hs3
  · refine c_law_pull (x := x1) (y := y1) (l := l1) (by tm_at "l") (by decide) fun σ2 got2 x2 y2 l2 g20 g21 F2 hb2 => ?_
    have hs2 : σ2[s]? = some (shopL (a + 1) u d) := F2.get (by tm_at "l") (ni1 hne.symm)
    have F2' : Fm [b, s] σ1 σ2 := (Fm.set (by simp)).trans (F2.mono (by simp))
    rcases int2 (by assumption : 0 ≤ got2) (by assumption) with rfl | rfl
    · refine x_tup (by tm_at "s") ?_; refine gL (by tm_at "l") ?_
      exact fin _ (.trig false _) _ _ _ _ F2' hb2 hs2
    · refine x_tup (by tm_at "s") ?_; refine gL (by tm_at "l") ?_
      exact fin _ (.trig true _) _ _ _ _ F2' hb2 hs2
  · refine c_law_pull (x := x1) (y := y1) (l := l1) (by tm_at "l") (by decide) fun σ2 got2 x2 y2 l2 g20 g21 F2 hb2 => ?_
    have hs2 : σ2[s]? = some (shopL (a + 1) u d) := F2.get (by tm_at "l") (ni1 hne.symm)
    have F2' : Fm [b, s] σ1 σ2 := (Fm.set (by simp)).trans (F2.mono (by simp))
    rcases int2 (by assumption : 0 ≤ got2) (by assumption) with rfl | rfl
    · refine x_tup (by tm_at "s") ?_
      exact fin _ (.call _) _ _ _ _ F2' hb2 hs2
    · refine x_tup (by tm_at "s") ?_
      exact fin _ (.sys _) _ _ _ _ F2' hb2 hs2
  · refine c_law_new hs1 fun σ2 F2 hs2 => ?_
    skip
    exact fin σ2 (.set0 _ _) _ _ _ _ (F2.mono (by simp)) (by tm_at "l") hs2
end
-- P20
section
set_option maxHeartbeats 1000000
open PySem
mutual
noncomputable def S.hgt : S → Nat
  | .none => 0
  | .pl _ => 0
  | .ite _ a b => max a.hgt b.hgt + 1
  | .caseA _ a c => max a.hgt c.hgt + 1
  | .caseB _ d a c => max d.hgt (max a.hgt c.hgt) + 1
  | .caseC _ a d => max a.hgt d.hgt + 1
  | .for_ _ _ _ b => b.hgt + 1
  | .while_ _ b => b.hgt + 1
  | .repeat_ _ b => b.hgt + 1
  | .forever b => b.hgt + 1
  | .block l _ => l.hgt + 1
  | .fork l _ => l.hgt + 1
  | .delay _ b => b.hgt + 1
  | .wait _ b => b.hgt + 1
  | .await _ b => b.hgt + 1
noncomputable def SL.hgt : SL → Nat
  | .nil => 0
  | .cons s r => max s.hgt r.hgt
end
mutual
noncomputable def S.cost : S → Nat
  | .none => 0
  | .pl _ => 1
  | .ite _ a b => a.cost + b.cost + 1
  | .caseA _ a c => a.cost + c.cost + 1
  | .caseB _ d a c => d.cost + a.cost + c.cost + 1
  | .caseC _ a d => a.cost + d.cost + 1
  | .for_ _ _ _ b => b.cost + 1
  | .while_ _ b => b.cost + 1
  | .repeat_ _ b => b.cost + 1
  | .forever b => b.cost + 1
  | .block l _ => l.cost + 1
  | .fork l _ => l.cost + 1
  | .delay _ b => b.cost + 1
  | .wait _ b => b.cost + 1
  | .await _ b => b.cost + 1
noncomputable def SL.cost : SL → Nat
  | .nil => 0
  | .cons s r => s.cost + r.cost
end
mutual
noncomputable def S.thin : S → Prop
  | .none => True
  | .pl _ => True
  | .ite _ a b => a.thin ∧ b.thin
  | .caseA _ a c => a.thin ∧ c.thin
  | .caseB _ d a c => d.thin ∧ a.thin ∧ c.thin
  | .caseC _ a d => a.thin ∧ d.thin
  | .for_ _ _ _ b => b.thin
  | .while_ _ b => b.thin
  | .repeat_ _ b => b.thin
  | .forever b => b.thin
  | .block l _ => l.thin
  | .fork l _ => l.thin ∧ l.num ≤ 3 ∧ 1 ≤ l.num
  | .delay _ b => b.thin
  | .wait _ b => b.thin
  | .await _ b => b.thin
noncomputable def SL.thin : SL → Prop
  | .nil => True
  | .cons s r => s.thin ∧ r.thin
end
noncomputable def TreeOk (k n : Nat) : Prop := ∀ (W : Nat) (ns : List Int) (σ : Store) (b s : Nat) (x y : Int) (l : List Int) (a dd : Int) (u d : Nat) (Q : AV → Store → Prop), dd = (k : Int) → σ[b]? = some (bagL x y l) → σ[s]? = some (shopL a u d) → b ≠ s →
  (∀ σ' t a' u' d' x' y' l', Fm [b, s] σ σ' → σ'[b]? = some (bagL x' y' l') → σ'[s]? = some (shopL a' u' d') → S.cost t + u' ≤ u → t.hgt ≤ k → t.thin → Q t.av σ') → W2 (run W ns n .law_tree [.cell b, .int dd, .cell s] σ) Q
noncomputable def PartsOk (k n : Nat) : Prop := ∀ (W : Nat) (ns : List Int) (σ : Store) (b s : Nat) (x y : Int) (l : List Int) (a dd least : Int) (u d : Nat) (Q : AV → Store → Prop), dd = (k : Int) → (least = 0 ∨ least = 1) → σ[b]? = some (bagL x y l) → σ[s]? = some (shopL a u d) → b ≠ s →
  (∀ σ' ls a' u' d' x' y' l', Fm [b, s] σ σ' → σ'[b]? = some (bagL x' y' l') → σ'[s]? = some (shopL a' u' d') → SL.cost ls + u' ≤ u → ls.hgt ≤ k → ls.thin → ls.num ≤ 3 → least ≤ (ls.num : Int) → Q (.tup ls.avs) σ') → W2 (run W ns n .law_parts [.cell b, .int dd, .cell s, .int least] σ) Q
theorem loop_parts {k n W : Nat} {ns : List Int} {b s : Nat} {it : List AV} {te el : Vars → Store → (AV → Store → Prop) → Prop} {i : Nat} (IH : TreeOk k n) (hne : b ≠ s) (dd : Int) (hd : dd = (k : Int)) (R : Option AV → Vars)
    (hs : ∀ v x r acc σ (QL : List AV → Store → Prop), W2 (run W ns n .law_tree [.cell b, .int dd, .cell s] σ) (fun u σ' => acc.length < lim ∧ wpComp te el i it none r (acc ++ [u]) (R (some v)) σ' QL) → wpComp te el i it none (v :: r) acc (R x) σ QL) :
    ∀ (L : List AV) (acc : List AV) (xx : Option AV) (x y : Int) (l : List Int) (a : Int) (u d : Nat) (σ : Store) (QL : List AV → Store → Prop), σ[b]? = some (bagL x y l) → σ[s]? = some (shopL a u d) → acc.length + L.length ≤ 10 →
      (∀ σ' ls a' u' d' x' y' l', Fm [b, s] σ σ' → σ'[b]? = some (bagL x' y' l') → σ'[s]? = some (shopL a' u' d') → SL.cost ls + u' ≤ u → ls.hgt ≤ k → ls.thin → ls.num = L.length → QL (acc ++ ls.avs) σ') → wpComp te el i it none L acc (R xx) σ QL
  | [], acc, xx, x, y, l, a, u, d, σ, QL, hb, hs', _, h => (show QL acc σ by simpa [SL.avs] using h σ .nil a u d x y l (Fm.refl _ _) hb hs' (by simp [SL.cost]) (by simp [SL.hgt]) (by simp [SL.thin]) (by simp [SL.num]))
  | v :: L, acc, xx, x, y, l, a, u, d, σ, QL, hb, hs', hL, h => by
    simp only [List.length_cons] at hL
    refine hs _ _ _ _ _ _ (IH W ns σ b s x y l a dd u d _ hd hb hs' hne fun σ1 t a1 u1 d1 x1 y1 l1 F1 hb1 hs1 c1 h1 t1 => ?_)
    refine ⟨by simp [lim]; exact (linl [_, _] [.le (.a (.v 0) (.a (.v 1) (.n 1))) (.n 10)] (.v 0) (.n 1048576) (.refl true) hL), loop_parts IH hne dd hd R hs L _ _ x1 y1 l1 a1 u1 d1 σ1 QL hb1 hs1 (by simp; exact (lin [_, _] [.le (.a (.v 0) (.a (.v 1) (.n 1))) (.n 10)] (.a (.a (.v 0) (.n 1)) (.v 1)) (.n 10) (.refl true) hL)) fun σ2 ls a2 u2 d2 x2 y2 l2 F2 hb2 hs2 c2 h2 t2 n2 => ?_⟩
    have := h σ2 (.cons t ls) a2 u2 d2 x2 y2 l2 (F1.trans F2) hb2 hs2 (by simp only [SL.cost]; exact (lin [_, _, _, _, _] [.le (.a (.v 0) (.v 1)) (.v 2), .le (.a (.v 3) (.v 4)) (.v 1)] (.a (.a (.v 0) (.v 3)) (.v 4)) (.v 2) (.refl true) c1 c2)) (by simp only [SL.hgt]; exact (Nat.max_le.2 ⟨h1, h2⟩)) ⟨t1, t2⟩ (by simp only [SL.num, List.length_cons]; exact (Nat.le_antisymm (lin [_, _] [.eq (.v 0) (.v 1)] (.a (.v 0) (.n 1)) (.a (.v 1) (.n 1)) (.refl true) n2) (lin [_, _] [.qe (.v 0) (.v 1)] (.a (.v 0) (.n 1)) (.a (.v 1) (.n 1)) (.refl true) n2)))
    simpa [SL.avs] using this
theorem dd1 (k : Nat) : ((k + 1 : Nat) : Int) - 1 = (k : Int) := by simp
theorem range_len (a b : Int) : (rangeI a b).length = (b - a).toNat := by simp [rangeI]
theorem part_a {g m : Int} (hl : m = 0 ∨ m = 1) (g1 : g < 3) : (rangeI 0 (m + g)).length ≤ 3 := by rw [range_len]; exact Int.toNat_le.mpr (by omega)
theorem part_b {g m : Int} (g0 : 0 ≤ g) : m ≤ ((rangeI 0 (m + g)).length : Int) := by rw [range_len, Int.sub_zero]; exact Int.le_trans (Int.le_add_of_nonneg_right g0) (Int.self_le_toNat _)
theorem parts {k n : Nat} (IH : TreeOk k (n + 1)) : PartsOk k (n + 2) := by
  intro W ns σ b s x y l a dd least u d Q hd hl hb hs hne h
  refine enter ?_
  skip
  refine c_law_pull hb (by decide) fun σ1 got x1 y1 l1 g0 g1 F1 hb1 => ?_
  have hs1 : σ1[s]? = some (shopL a u d) := F1.get hs (ni1 hne.symm)
  have F1' : Fm [b, s] σ σ1 := F1.mono (by simp)
  refine And.intro (by tm_at "w") ?_
  refine loop_parts (W := W) (ns := ns) (k := k) (n := n + 1) IH hne dd hd (fun t => [none, t, none, some (.cell b), some (.int dd), some (.cell s)]) ?_ _ _ none x1 y1 l1 a u d σ1 _ hb1 hs1 (by rw [List.length_nil, Nat.zero_add]; exact Nat.le_trans (part_a hl g1) (by decide)) fun σ2 ls a2 u2 d2 x2 y2 l2 F2 hb2 hs2 c2 h2 t2 n2 => ?_
  · intro v x r acc σ QL h
    skip
    exact h
  · refine newL fun vq1 vs1 vF1 vl1 vg1 => ?_; refine gL (by tm_at "l") ?_
    exact h _ ls a2 u2 d2 x2 y2 l2 (by tm_at "f") (by tm_at "l") (by tm_at "l") c2 h2 t2 (by rw [n2]; exact part_a hl g1) (by rw [n2]; exact part_b g0)
theorem Fm.toBS {b s : Nat} {σ σ' : Store} (F : Fm [b] σ σ') : Fm [b, s] σ σ' := F.mono (by simp)
theorem Fm.toSB {b s : Nat} {σ σ' : Store} (F : Fm [s] σ σ') : Fm [b, s] σ σ' := F.mono (by simp)
theorem tree0 {n : Nat} : TreeOk 0 (n + 4) := by
  intro W ns σ b s x y l a dd u d Q hd hb hs hne h
  subst hd
  refine enter ?_
  refine gL (by tm_at "l") ?_; refine if_d (fun vh => ?_) (fun vh => ?_); rotate_left; refine x_list (by tm_at "l") (by tm_at "s") ?_; refine y_list (by tm_at "l") (by tm_at "w") ?_; rotate_left
  · exact h σ .none a u d x y l (Fm.refl _ _) hb hs (by simp [S.cost]) (by simp [S.hgt]) trivial
  obtain ⟨u, rfl⟩ : ∃ j, u = j + 1 := ex_add (by omega)
  refine c_law_pull (x := x) (y := y) (l := l) (by tm_at "l") (by decide) fun σ1 got x1 y1 l1 g0 g1 F1 hb1 => ?_
  have hs1 : σ1[s]? = some (shopL a u d) := get_congr (show σ1[s]? = _ by tm_at "l") (by rw [dd1]; rfl)
  have F1 := F1.toBS (s := s)
  have F0 : Fm [b, s] σ σ1 := by tm_at "f"
  refine if_d (fun vh => ?_) (fun vh => ?_); rotate_left; rotate_left
  · exact h σ1 .none _ _ _ _ _ _ F0 hb1 hs1 (by simp only [S.cost]; exact (lin [_] [] (.a (.n 0) (.v 0)) (.a (.v 0) (.n 1)) (.refl true) )) (by simp only [S.hgt]; exact (Nat.le_refl _)) trivial
  · refine c_law_plain hb1 hs1 hne fun σ2 p a2 x2 y2 l2 F2 hb2 hs2 => ?_
    skip
    exact h σ2 (.pl p) _ _ _ _ _ _ (F0.trans F2) hb2 hs2 (by simp only [S.cost]; exact (lin [_] [] (.a (.n 1) (.v 0)) (.a (.v 0) (.n 1)) (.refl true) )) (by simp only [S.hgt]; exact (Nat.le_refl _)) trivial
theorem treeS {k n : Nat} (IH : TreeOk k (n + 5)) (IP : PartsOk k (n + 5)) : TreeOk (k + 1) (n + 6) := by
  intro W ns σ b s x y l a dd u d Q hd hb hs hne h
  subst hd
  refine enter ?_
  refine gL (by tm_at "l") ?_; refine if_d (fun vh => ?_) (fun vh => ?_); rotate_left; refine x_list (by tm_at "l") (by tm_at "s") ?_; refine y_list (by tm_at "l") (by tm_at "w") ?_; rotate_left
  · exact h σ .none a u d x y l (Fm.refl _ _) hb hs (by simp [S.cost]) (by simp [S.hgt]) trivial
  obtain ⟨u, rfl⟩ : ∃ j, u = j + 1 := ex_add (by omega)
  refine c_law_pull (x := x) (y := y) (l := l) (by tm_at "l") (by decide) fun σ1 got x1 y1 l1 g0 g1 F1 hb1 => ?_
  have hs1 : σ1[s]? = some (shopL a u d) := get_congr (show σ1[s]? = _ by tm_at "l") (by rw [dd1]; rfl)
  have F1 := F1.toBS (s := s)
  have F0 : Fm [b, s] σ σ1 := by tm_at "f"
  have fin : ∀ σ' t a' u' d' x' y' l', Fm [b, s] σ1 σ' → σ'[b]? = some (bagL x' y' l') → σ'[s]? = some (shopL a' u' d') → S.cost t + u' ≤ u + 1 → t.hgt ≤ k + 1 → t.thin → Q t.av σ' := fun σ' t a' u' d' x' y' l' F hb hs => h σ' t a' u' d' x' y' l' (F0.trans F) hb hs
  clear h hb hs F1
  refine if_d (fun vh => ?_) (fun vh => ?_); refine if_d (fun vh => ?_) (fun vh => ?_); rotate_left; rotate_left; refine if_d (fun vh => ?_) (fun vh => ?_); rotate_left; refine if_d (fun vh => ?_) (fun vh => ?_); refine if_d (fun vh => ?_) (fun vh => ?_); rotate_left; rotate_left; refine if_d (fun vh => ?_) (fun vh => ?_); refine if_d (fun vh => ?_) (fun vh => ?_); rotate_left; rotate_left; refine if_d (fun vh => ?_) (fun vh => ?_); rotate_left; refine if_d (fun vh => ?_) (fun vh => ?_); rotate_left; refine if_d (fun vh => ?_) (fun vh => ?_); rotate_left; refine if_d (fun vh => ?_) (fun vh => ?_); rotate_left; refine if_d (fun vh => ?_) (fun vh => ?_); rotate_left; refine if_d (fun vh => ?_) (fun vh => ?_); rotate_left; rotate_left
  · exact fin _ .none _ _ _ _ _ _ (by tm_at "f") (by tm_at "l") (by tm_at "l") (by simp only [S.cost]; exact (lin [_] [] (.a (.n 0) (.v 0)) (.a (.v 0) (.n 1)) (.refl true) )) (by simp [S.hgt]) trivial
  · refine c_law_plain (by tm_at "l") (by tm_at "l") hne fun σ2 p2 a2 x2 y2 l2 F2 hb2 hs2 => ?_
    skip
    exact fin _ (.pl p2) _ _ _ _ _ _ (by tm_at "f") (by tm_at "l") (by tm_at "l") (by simp only [S.cost]; exact (lin [_] [] (.a (.n 1) (.v 0)) (.a (.v 0) (.n 1)) (.refl true) )) (by simp [S.hgt]) trivial
  · refine c_law_new (by tm_at "l") fun σ2 F2 hs2 => ?_
    have E2 := F2.toSB (b := b)
    have F2 := F2
    skip
    refine IH W ns _ b s _ _ _ _ _ _ _ _ (dd1 _) (by tm_at "l") (by tm_at "l") hne fun σ3 t3 a3 u3 d3 x3 y3 l3 F3 hb3 hs3 c3 g3 w3 => ?_
    skip
    refine IH W ns _ b s _ _ _ _ _ _ _ _ (dd1 _) (by tm_at "l") (by tm_at "l") hne fun σ4 t4 a4 u4 d4 x4 y4 l4 F4 hb4 hs4 c4 g4 w4 => ?_
    skip
    exact fin _ (.ite _ t3 t4) _ _ _ _ _ _ (by tm_at "f") (by tm_at "l") (by tm_at "l") (by simp only [S.cost, SL.cost]; exact (lin [_, _, _, _, _] [.le (.a (.v 0) (.v 1)) (.v 2), .le (.a (.v 3) (.v 4)) (.v 1)] (.a (.a (.a (.v 0) (.v 3)) (.n 1)) (.v 4)) (.a (.v 2) (.n 1)) (.refl true) c3 c4)) (by simp only [S.hgt, SL.hgt]; exact (Nat.add_le_add_right (Nat.max_le.2 ⟨g3, g4⟩) 1)) (by simp only [S.thin]; exact ⟨w3, w4⟩)
  · refine c_law_new (by tm_at "l") fun σ2 F2 hs2 => ?_
    have E2 := F2.toSB (b := b)
    have F2 := F2
    skip
    refine IH W ns _ b s _ _ _ _ _ _ _ _ (dd1 _) (by tm_at "l") (by tm_at "l") hne fun σ3 t3 a3 u3 d3 x3 y3 l3 F3 hb3 hs3 c3 g3 w3 => ?_
    skip
    refine IH W ns _ b s _ _ _ _ _ _ _ _ (dd1 _) (by tm_at "l") (by tm_at "l") hne fun σ4 t4 a4 u4 d4 x4 y4 l4 F4 hb4 hs4 c4 g4 w4 => ?_
    skip
    refine IH W ns _ b s _ _ _ _ _ _ _ _ (dd1 _) (by tm_at "l") (by tm_at "l") hne fun σ5 t5 a5 u5 d5 x5 y5 l5 F5 hb5 hs5 c5 g5 w5 => ?_
    skip
    refine c_law_pull (by tm_at "l") (by decide) fun σ6 got6 x6 y6 l6 p6 q6 F6 hb6 => ?_
    have E6 := F6.toBS (s := s)
    have F6 := F6
    rcases int3 (by assumption : 0 ≤ got6) (by assumption) with rfl | rfl | rfl
    · refine x_tup (by tm_at "s") ?_
      exact fin _ (.caseA (some _) t3 t5) _ _ _ _ _ _ (by tm_at "f") (by tm_at "l") (by tm_at "l") (by simp only [S.cost, SL.cost]; exact (lin [_, _, _, _, _, _, _] [.le (.a (.v 0) (.v 1)) (.v 2), .le (.a (.v 3) (.v 4)) (.v 5), .le (.a (.v 6) (.v 5)) (.v 1)] (.a (.a (.a (.v 0) (.v 3)) (.n 1)) (.v 4)) (.a (.v 2) (.n 1)) (.refl true) c3 c5 c4)) (by simp only [S.hgt, SL.hgt]; exact (Nat.add_le_add_right (Nat.max_le.2 ⟨g3, g5⟩) 1)) (by simp only [S.thin]; exact ⟨w3, w5⟩)
    · refine x_tup (by tm_at "s") ?_
      exact fin _ (.caseB (some _) t4 t3 t5) _ _ _ _ _ _ (by tm_at "f") (by tm_at "l") (by tm_at "l") (by simp only [S.cost, SL.cost]; exact (lin [_, _, _, _, _, _, _] [.le (.a (.v 0) (.v 1)) (.v 2), .le (.a (.v 3) (.v 2)) (.v 4), .le (.a (.v 5) (.v 6)) (.v 1)] (.a (.a (.a (.a (.v 0) (.v 3)) (.v 5)) (.n 1)) (.v 6)) (.a (.v 4) (.n 1)) (.refl true) c4 c3 c5)) (by simp only [S.hgt, SL.hgt]; exact (Nat.add_le_add_right (Nat.max_le.2 ⟨g4, (Nat.max_le.2 ⟨g3, g5⟩)⟩) 1)) (by simp only [S.thin]; exact ⟨w4, w3, w5⟩)
    · refine x_tup (by tm_at "s") ?_
      exact fin _ (.caseC (some _) t3 t4) _ _ _ _ _ _ (by tm_at "f") (by tm_at "l") (by tm_at "l") (by simp only [S.cost, SL.cost]; exact (lin [_, _, _, _, _, _, _] [.le (.a (.v 0) (.v 1)) (.v 2), .le (.a (.v 3) (.v 4)) (.v 1), .le (.a (.v 5) (.v 6)) (.v 4)] (.a (.a (.a (.v 0) (.v 3)) (.n 1)) (.v 6)) (.a (.v 2) (.n 1)) (.refl true) c3 c4 c5)) (by simp only [S.hgt, SL.hgt]; exact (Nat.add_le_add_right (Nat.max_le.2 ⟨g3, g4⟩) 1)) (by simp only [S.thin]; exact ⟨w3, w4⟩)
  · exact absurd ‹got = 3› ‹¬got = 3›
  · exact absurd ‹got = 3› ‹¬got = 3›
  · refine IH W ns _ b s _ _ _ _ _ _ _ _ (dd1 _) (by tm_at "l") (by tm_at "l") hne fun σ2 t2 a2 u2 d2 x2 y2 l2 F2 hb2 hs2 c2 g2 w2 => ?_
    skip
    refine IH W ns _ b s _ _ _ _ _ _ _ _ (dd1 _) (by tm_at "l") (by tm_at "l") hne fun σ3 t3 a3 u3 d3 x3 y3 l3 F3 hb3 hs3 c3 g3 w3 => ?_
    skip
    refine IH W ns _ b s _ _ _ _ _ _ _ _ (dd1 _) (by tm_at "l") (by tm_at "l") hne fun σ4 t4 a4 u4 d4 x4 y4 l4 F4 hb4 hs4 c4 g4 w4 => ?_
    skip
    refine c_law_pull (by tm_at "l") (by decide) fun σ5 got5 x5 y5 l5 p5 q5 F5 hb5 => ?_
    have E5 := F5.toBS (s := s)
    have F5 := F5
    rcases int3 (by assumption : 0 ≤ got5) (by assumption) with rfl | rfl | rfl
    · refine x_tup (by tm_at "s") ?_
      exact fin _ (.caseA none t2 t4) _ _ _ _ _ _ (by tm_at "f") (by tm_at "l") (by tm_at "l") (by simp only [S.cost, SL.cost]; exact (lin [_, _, _, _, _, _, _] [.le (.a (.v 0) (.v 1)) (.v 2), .le (.a (.v 3) (.v 4)) (.v 5), .le (.a (.v 6) (.v 5)) (.v 1)] (.a (.a (.a (.v 0) (.v 3)) (.n 1)) (.v 4)) (.a (.v 2) (.n 1)) (.refl true) c2 c4 c3)) (by simp only [S.hgt, SL.hgt]; exact (Nat.add_le_add_right (Nat.max_le.2 ⟨g2, g4⟩) 1)) (by simp only [S.thin]; exact ⟨w2, w4⟩)
    · refine x_tup (by tm_at "s") ?_
      exact fin _ (.caseB none t3 t2 t4) _ _ _ _ _ _ (by tm_at "f") (by tm_at "l") (by tm_at "l") (by simp only [S.cost, SL.cost]; exact (lin [_, _, _, _, _, _, _] [.le (.a (.v 0) (.v 1)) (.v 2), .le (.a (.v 3) (.v 2)) (.v 4), .le (.a (.v 5) (.v 6)) (.v 1)] (.a (.a (.a (.a (.v 0) (.v 3)) (.v 5)) (.n 1)) (.v 6)) (.a (.v 4) (.n 1)) (.refl true) c3 c2 c4)) (by simp only [S.hgt, SL.hgt]; exact (Nat.add_le_add_right (Nat.max_le.2 ⟨g3, (Nat.max_le.2 ⟨g2, g4⟩)⟩) 1)) (by simp only [S.thin]; exact ⟨w3, w2, w4⟩)
    · refine x_tup (by tm_at "s") ?_
      exact fin _ (.caseC none t2 t3) _ _ _ _ _ _ (by tm_at "f") (by tm_at "l") (by tm_at "l") (by simp only [S.cost, SL.cost]; exact (lin [_, _, _, _, _, _, _] [.le (.a (.v 0) (.v 1)) (.v 2), .le (.a (.v 3) (.v 4)) (.v 1), .le (.a (.v 5) (.v 6)) (.v 4)] (.a (.a (.a (.v 0) (.v 3)) (.n 1)) (.v 6)) (.a (.v 2) (.n 1)) (.refl true) c2 c3 c4)) (by simp only [S.hgt, SL.hgt]; exact (Nat.add_le_add_right (Nat.max_le.2 ⟨g2, g3⟩) 1)) (by simp only [S.thin]; exact ⟨w2, w3⟩)
  · refine c_law_plain (by tm_at "l") (by tm_at "l") hne fun σ2 p2 a2 x2 y2 l2 F2 hb2 hs2 => ?_
    skip
    refine c_law_new (by tm_at "l") fun σ3 F3 hs3 => ?_
    have E3 := F3.toSB (b := b)
    have F3 := F3
    skip
    refine c_law_plain (by tm_at "l") (by tm_at "l") hne fun σ4 p4 a4 x4 y4 l4 F4 hb4 hs4 => ?_
    skip
    refine IH W ns _ b s _ _ _ _ _ _ _ _ (dd1 _) (by tm_at "l") (by tm_at "l") hne fun σ5 t5 a5 u5 d5 x5 y5 l5 F5 hb5 hs5 c5 g5 w5 => ?_
    skip
    exact fin _ (.for_ p2 _ p4 t5) _ _ _ _ _ _ (by tm_at "f") (by tm_at "l") (by tm_at "l") (by simp only [S.cost, SL.cost]; exact (lin [_, _, _] [.le (.a (.v 0) (.v 1)) (.v 2)] (.a (.a (.v 0) (.n 1)) (.v 1)) (.a (.v 2) (.n 1)) (.refl true) c5)) (by simp only [S.hgt, SL.hgt]; exact (lin [_, _] [.le (.v 0) (.v 1)] (.a (.v 0) (.n 1)) (.a (.v 1) (.n 1)) (.refl true) g5)) (by simp only [S.thin]; exact w5)
  · refine c_law_new (by tm_at "l") fun σ2 F2 hs2 => ?_
    have E2 := F2.toSB (b := b)
    have F2 := F2
    skip
    refine IH W ns _ b s _ _ _ _ _ _ _ _ (dd1 _) (by tm_at "l") (by tm_at "l") hne fun σ3 t3 a3 u3 d3 x3 y3 l3 F3 hb3 hs3 c3 g3 w3 => ?_
    skip
    exact fin _ (.while_ _ t3) _ _ _ _ _ _ (by tm_at "f") (by tm_at "l") (by tm_at "l") (by simp only [S.cost, SL.cost]; exact (lin [_, _, _] [.le (.a (.v 0) (.v 1)) (.v 2)] (.a (.a (.v 0) (.n 1)) (.v 1)) (.a (.v 2) (.n 1)) (.refl true) c3)) (by simp only [S.hgt, SL.hgt]; exact (lin [_, _] [.le (.v 0) (.v 1)] (.a (.v 0) (.n 1)) (.a (.v 1) (.n 1)) (.refl true) g3)) (by simp only [S.thin]; exact w3)
  · refine c_law_new (by tm_at "l") fun σ2 F2 hs2 => ?_
    have E2 := F2.toSB (b := b)
    have F2 := F2
    skip
    refine IH W ns _ b s _ _ _ _ _ _ _ _ (dd1 _) (by tm_at "l") (by tm_at "l") hne fun σ3 t3 a3 u3 d3 x3 y3 l3 F3 hb3 hs3 c3 g3 w3 => ?_
    skip
    exact fin _ (.repeat_ _ t3) _ _ _ _ _ _ (by tm_at "f") (by tm_at "l") (by tm_at "l") (by simp only [S.cost, SL.cost]; exact (lin [_, _, _] [.le (.a (.v 0) (.v 1)) (.v 2)] (.a (.a (.v 0) (.n 1)) (.v 1)) (.a (.v 2) (.n 1)) (.refl true) c3)) (by simp only [S.hgt, SL.hgt]; exact (lin [_, _] [.le (.v 0) (.v 1)] (.a (.v 0) (.n 1)) (.a (.v 1) (.n 1)) (.refl true) g3)) (by simp only [S.thin]; exact w3)
  · refine IH W ns _ b s _ _ _ _ _ _ _ _ (dd1 _) (by tm_at "l") (by tm_at "l") hne fun σ2 t2 a2 u2 d2 x2 y2 l2 F2 hb2 hs2 c2 g2 w2 => ?_
    skip
    exact fin _ (.forever t2) _ _ _ _ _ _ (by tm_at "f") (by tm_at "l") (by tm_at "l") (by simp only [S.cost, SL.cost]; exact (lin [_, _, _] [.le (.a (.v 0) (.v 1)) (.v 2)] (.a (.a (.v 0) (.n 1)) (.v 1)) (.a (.v 2) (.n 1)) (.refl true) c2)) (by simp only [S.hgt, SL.hgt]; exact (lin [_, _] [.le (.v 0) (.v 1)] (.a (.v 0) (.n 1)) (.a (.v 1) (.n 1)) (.refl true) g2)) (by simp only [S.thin]; exact w2)
  · refine c_law_scope (by tm_at "l") (by tm_at "l") hne fun σ2 c2 d2 x2 y2 l2 F2 hb2 hs2 => ?_
    skip
    refine IP W ns _ b s _ _ _ _ _ _ _ _ _ (dd1 _) (.inl rfl) (by tm_at "l") (by tm_at "l") hne fun σ3 t3 a3 u3 d3 x3 y3 l3 F3 hb3 hs3 c3 g3 w3 m3 i3 => ?_
    skip
    exact fin _ (.block t3 c2) _ _ _ _ _ _ (by tm_at "f") (by tm_at "l") (by tm_at "l") (by simp only [S.cost, SL.cost]; exact (lin [_, _, _] [.le (.a (.v 0) (.v 1)) (.v 2)] (.a (.a (.v 0) (.n 1)) (.v 1)) (.a (.v 2) (.n 1)) (.refl true) c3)) (by simp only [S.hgt, SL.hgt]; exact (lin [_, _] [.le (.v 0) (.v 1)] (.a (.v 0) (.n 1)) (.a (.v 1) (.n 1)) (.refl true) g3)) (by simp only [S.thin]; exact w3)
  · refine c_law_scope (by tm_at "l") (by tm_at "l") hne fun σ2 c2 d2 x2 y2 l2 F2 hb2 hs2 => ?_
    skip
    refine IP W ns _ b s _ _ _ _ _ _ _ _ _ (dd1 _) (.inr rfl) (by tm_at "l") (by tm_at "l") hne fun σ3 t3 a3 u3 d3 x3 y3 l3 F3 hb3 hs3 c3 g3 w3 m3 i3 => ?_
    skip
    exact fin _ (.fork t3 c2) _ _ _ _ _ _ (by tm_at "f") (by tm_at "l") (by tm_at "l") (by simp only [S.cost, SL.cost]; exact (lin [_, _, _] [.le (.a (.v 0) (.v 1)) (.v 2)] (.a (.a (.v 0) (.n 1)) (.v 1)) (.a (.v 2) (.n 1)) (.refl true) c3)) (by simp only [S.hgt, SL.hgt]; exact (lin [_, _] [.le (.v 0) (.v 1)] (.a (.v 0) (.n 1)) (.a (.v 1) (.n 1)) (.refl true) g3)) (by simp only [S.thin]; exact ⟨w3, m3, Int.ofNat_le.mp i3⟩)
  · refine c_law_new (by tm_at "l") fun σ2 F2 hs2 => ?_
    have E2 := F2.toSB (b := b)
    have F2 := F2
    refine if_d (fun vh => ?_) (fun vh => ?_); rotate_left; rotate_left
    · refine c_law_pull (by tm_at "l") (by decide) fun σ3 got3 x3 y3 l3 p3 q3 F3 hb3 => ?_
      have E3 := F3.toBS (s := s)
      have F3 := F3
      rcases int2 (by assumption : 0 ≤ got3) (by assumption) with rfl | rfl
      · refine x_tup (by tm_at "s") ?_
        refine IH W ns _ b s _ _ _ _ _ _ _ _ (dd1 _) (by tm_at "l") (by tm_at "l") hne fun σ4 t4 a4 u4 d4 x4 y4 l4 F4 hb4 hs4 c4 g4 w4 => ?_
        skip
        exact fin _ (.delay _ t4) _ _ _ _ _ _ (by tm_at "f") (by tm_at "l") (by tm_at "l") (by simp only [S.cost, SL.cost]; exact (lin [_, _, _] [.le (.a (.v 0) (.v 1)) (.v 2)] (.a (.a (.v 0) (.n 1)) (.v 1)) (.a (.v 2) (.n 1)) (.refl true) c4)) (by simp only [S.hgt, SL.hgt]; exact (lin [_, _] [.le (.v 0) (.v 1)] (.a (.v 0) (.n 1)) (.a (.v 1) (.n 1)) (.refl true) g4)) (by simp only [S.thin]; exact w4)
      · refine x_tup (by tm_at "s") ?_
        refine IH W ns _ b s _ _ _ _ _ _ _ _ (dd1 _) (by tm_at "l") (by tm_at "l") hne fun σ4 t4 a4 u4 d4 x4 y4 l4 F4 hb4 hs4 c4 g4 w4 => ?_
        skip
        exact fin _ (.wait _ t4) _ _ _ _ _ _ (by tm_at "f") (by tm_at "l") (by tm_at "l") (by simp only [S.cost, SL.cost]; exact (lin [_, _, _] [.le (.a (.v 0) (.v 1)) (.v 2)] (.a (.a (.v 0) (.n 1)) (.v 1)) (.a (.v 2) (.n 1)) (.refl true) c4)) (by simp only [S.hgt, SL.hgt]; exact (lin [_, _] [.le (.v 0) (.v 1)] (.a (.v 0) (.n 1)) (.a (.v 1) (.n 1)) (.refl true) g4)) (by simp only [S.thin]; exact w4)
    · refine IH W ns _ b s _ _ _ _ _ _ _ _ (dd1 _) (by tm_at "l") (by tm_at "l") hne fun σ3 t3 a3 u3 d3 x3 y3 l3 F3 hb3 hs3 c3 g3 w3 => ?_
      skip
      exact fin _ (.await _ t3) _ _ _ _ _ _ (by tm_at "f") (by tm_at "l") (by tm_at "l") (by simp only [S.cost, SL.cost]; exact (lin [_, _, _] [.le (.a (.v 0) (.v 1)) (.v 2)] (.a (.a (.v 0) (.n 1)) (.v 1)) (.a (.v 2) (.n 1)) (.refl true) c3)) (by simp only [S.hgt, SL.hgt]; exact (lin [_, _] [.le (.v 0) (.v 1)] (.a (.v 0) (.n 1)) (.a (.v 1) (.n 1)) (.refl true) g3)) (by simp only [S.thin]; exact w3)
theorem tree : ∀ k n, TreeOk k (n + 2 * k + 4)
  | 0, n => by
    have := tree0 (n := n)
    simpa using this
  | k + 1, n => by
    have h1 := tree k (n + 1)
    have h2 := tree k n
    have := treeS (k := k) (n := n + 2 * k) (by have e : n + 1 + 2 * k + 4 = n + 2 * k + 5 := by exact (Nat.le_antisymm (lin [_, _] [] (.a (.a (.a (.v 0) (.n 1)) (.m 2 (.v 1))) (.n 4)) (.a (.a (.v 0) (.m 2 (.v 1))) (.n 5)) (.refl true) ) (lin [_, _] [] (.a (.a (.v 0) (.m 2 (.v 1))) (.n 5)) (.a (.a (.a (.v 0) (.n 1)) (.m 2 (.v 1))) (.n 4)) (.refl true) ))
                                                rw [e] at h1; exact h1) (parts (n := n + 2 * k + 3) h2)
    have e : n + 2 * (k + 1) + 4 = n + 2 * k + 6 := by exact (Nat.le_antisymm (lin [_, _] [] (.a (.a (.v 0) (.m 2 (.a (.v 1) (.n 1)))) (.n 4)) (.a (.a (.v 0) (.m 2 (.v 1))) (.n 6)) (.refl true) ) (lin [_, _] [] (.a (.a (.v 0) (.m 2 (.v 1))) (.n 6)) (.a (.a (.v 0) (.m 2 (.a (.v 1) (.n 1)))) (.n 4)) (.refl true) ))
    rw [e]
    exact this
end
-- P21
section
set_option maxHeartbeats 1000000
open PySem
section
variable {W n : Nat} {ns : List Int} {σ : Store}
theorem c_mkInit {q : Nat} {k : Int} {Q : AV → Store → Prop} (hq : σ[q]? = some (.obj .maker []))
    (h : ∀ σ' c, Fm [q] σ σ' → σ.length ≤ c → σ'[q]? = some (mkObj k c) → σ'[c]? = some (.list []) → Q .none σ') : W2 (run W ns (n + 1) .mkInit [.cell q, .int k] σ) Q := by
  refine enter ?_
  refine gO (by tm_at "l") ?_; refine newL fun vq1 vs1 vF1 vl1 vg1 => ?_; refine gO (by tm_at "l") ?_
  have e : vq1 ≠ q := by tm_at "n"
  exact h _ vq1 (by tm_at "f") (by tm_at "g") (by tm_at "l") (by tm_at "l")
theorem c_thInit {q : Nat} {c1 c2 : Nat} {Q : AV → Store → Prop} (hq : σ[q]? = some (.obj .thread []))
    (h : ∀ σ' c3 c4 c5, Fm [q] σ σ' → σ'[q]? = some (.obj .thread [(58, .int 0), (57, .cell c1), (59, .int 0), (60, .cell c2), (61, .str 53), (62, .cell c3), (63, .cell c4), (64, .int (-1)), (65, .cell c5), (66, .bool false), (46, .none), (67, .int 0), (68, .bool false), (20, .bool false)]) → Q .none σ') :
    W2 (run W ns (n + 1) .thInit [.cell q, .int 0, .cell c1, .int 0, .cell c2, .str 53] σ) Q := by
  refine enter ?_
  refine gO (by tm_at "l") ?_; refine gO (by tm_at "l") ?_; refine gO (by tm_at "l") ?_; refine gO (by tm_at "l") ?_; refine gO (by tm_at "l") ?_; refine newL fun vq1 vs1 vF1 vl1 vg1 => ?_; refine gO (by tm_at "l") ?_; refine newL fun vq2 vs2 vF2 vl2 vg2 => ?_; refine gO (by tm_at "l") ?_; refine gO (by tm_at "l") ?_; refine newL fun vq3 vs3 vF3 vl3 vg3 => ?_; refine gO (by tm_at "l") ?_; refine gO (by tm_at "l") ?_; refine gO (by tm_at "l") ?_; refine gO (by tm_at "l") ?_; refine gO (by tm_at "l") ?_; refine gO (by tm_at "l") ?_
  have e1 : vq1 ≠ q := by tm_at "n"
  have e2 : vq2 ≠ q := by tm_at "n"
  have e3 : vq3 ≠ q := by tm_at "n"
  exact h _ vq1 vq2 vq3 (by tm_at "f") (by tm_at "l")
end
theorem fmN1 {σ s s' : Store} {a : Nat} (f : Fm [] σ s) (g : Fm [a] s s') (h : σ.length ≤ a) : Fm [] σ s' :=
  f.transNew g fun i hi => by
    simp only [List.mem_cons, List.not_mem_nil, or_false] at hi
    exact .inr (hi ▸ h)
theorem fmN2 {σ s s' : Store} {a b : Nat} (f : Fm [] σ s) (g : Fm [a, b] s s') (h : σ.length ≤ a) (h2 : σ.length ≤ b) : Fm [] σ s' :=
  f.transNew g fun i hi => by
    simp only [List.mem_cons, List.not_mem_nil, or_false] at hi
    rcases hi with e | e
    · exact .inr (e ▸ h)
    · exact .inr (e ▸ h2)
noncomputable def lastP : Bool → Row
  | true => .jump 0
  | false => .fin
theorem c_process {W n : Nat} {ns : List Int} {σ : Store} {t : Nat} {L : List (Nat × AV)} {K : Cls} {s : S} {kd : Bool} {Q : AV → Store → Prop} (ht : σ[t]? = some (.obj K L)) (hb : lookN 55 L = some s.av) (hk : lookN 69 L = some (.str (if kd then 13 else 54))) (hd : s.dep ≤ n) (hl : s.len ≤ 1000)
    (h : ∀ σ' c, Fm [] σ σ' → σ.length ≤ c → σ'[c]? = some (.list ((s.rows 0 0 ++ [lastP kd]).map Row.av)) → Q (.tup [.cell c, .int s.nsl]) σ') : W2 (run (W + 2) ns (n + 2) .compile_process [.cell t] σ) Q := by
  have hlen := (mkS s).1
  have hd1 : s.dep ≤ n + 1 := by exact (lin [_, _] [.le (.v 0) (.v 1)] (.v 0) (.a (.v 1) (.n 1)) (.refl true) hd)
  cases kd with
  | true =>
    have hk : lookN 69 L = some (.str 13) := hk
    refine enter ?_
    refine newL fun vq1 vs1 vF1 vl1 vg1 => ?_
    have e : vq1 ≠ t := by tm_at "n"
    refine c_mkInit vg1 fun σ1 c F1 hc hm1 hc1 => ?_
    have e2 : c ≠ t := by tm_at "n"
    have l2 : σ.length ≤ c := by tm_at "g"
    refine gO (by tm_at "l") ?_; refine lookK_of (by assumption) ?_
    refine (mkS s).2 W _ ns vq1 c 0 [] σ1 _ hd1 hm1 hc1 (by simp; exact (lin [_] [.le (.v 0) (.n 1000)] (.v 0) (.n 1000000) (.refl true) hl)) fun σ2 F2 hm2 hc2 => ?_
    refine gO (by tm_at "l") ?_; refine lookK_of (by assumption) ?_
    refine c_emit hm2 hc2 (by simp [lim, hlen]; exact (linl [_] [.le (.v 0) (.n 1000)] (.v 0) (.n 1048576) (.refl true) hl)) fun σ3 F3 hm3 hc3 => ?_
    refine gO (by tm_at "l") ?_; refine gO (by tm_at "l") ?_
    have G : Fm [] σ σ3 := fmN2 (fmN2 (fmN1 vF1 F1 vl1) F2 vl1 l2) F3 vl1 l2
    exact (congrArg (fun i : Int => Q (.tup [.cell c, .int i]) σ3) (by simp)).mpr (h σ3 c G l2 (get_congr hc3 (by simp [lastP])))
  | false =>
    have hk : lookN 69 L = some (.str 54) := hk
    refine enter ?_
    refine newL fun vq1 vs1 vF1 vl1 vg1 => ?_
    have e : vq1 ≠ t := by tm_at "n"
    refine c_mkInit vg1 fun σ1 c F1 hc hm1 hc1 => ?_
    have e2 : c ≠ t := by tm_at "n"
    have l2 : σ.length ≤ c := by tm_at "g"
    refine gO (by tm_at "l") ?_; refine lookK_of (by assumption) ?_
    refine (mkS s).2 W _ ns vq1 c 0 [] σ1 _ hd1 hm1 hc1 (by simp; exact (lin [_] [.le (.v 0) (.n 1000)] (.v 0) (.n 1000000) (.refl true) hl)) fun σ2 F2 hm2 hc2 => ?_
    refine gO (by tm_at "l") ?_; refine lookK_of (by assumption) ?_
    refine c_emit hm2 hc2 (by simp [lim, hlen]; exact (linl [_] [.le (.v 0) (.n 1000)] (.v 0) (.n 1048576) (.refl true) hl)) fun σ3 F3 hm3 hc3 => ?_
    refine gO (by tm_at "l") ?_; refine gO (by tm_at "l") ?_
    have G : Fm [] σ σ3 := fmN2 (fmN2 (fmN1 vF1 F1 vl1) F2 vl1 l2) F3 vl1 l2
    exact (congrArg (fun i : Int => Q (.tup [.cell c, .int i]) σ3) (by simp)).mpr (h σ3 c G l2 (get_congr hc3 (by simp [lastP])))
theorem c_routine {W n : Nat} {ns : List Int} {σ : Store} {t sl : Nat} {L : List (Nat × AV)} {K : Cls} {s : S} {o : Option Nat} {l : List AV} {Q : AV → Store → Prop} (ht : σ[t]? = some (.obj K L)) (hb : lookN 55 L = some s.av) (hk : lookN 56 L = some (.cell sl)) (hsl : σ[sl]? = some (.list l)) (hd : s.dep ≤ n) (hl : s.len ≤ 1000)
    (h : ∀ σ' c, Fm [] σ σ' → σ.length ≤ c → σ'[c]? = some (.list (((S.block (.cons s .nil) o).rows 0 l.length ++ [Row.ret]).map Row.av)) → Q (.tup [.cell c, .int (l.length + s.nsl : Nat)]) σ') : W2 (run (W + 2) ns (n + 4) .compile_routine [.cell t, .int (scI o)] σ) Q := by
  have hlen := (mkS s).1
  have hd1 : s.dep ≤ n + 3 := by exact (lin [_, _] [.le (.v 0) (.v 1)] (.v 0) (.a (.v 1) (.n 3)) (.refl true) hd)
  cases o with
  | none =>
    simp only [scI]
    refine enter ?_
    refine gO (by tm_at "l") ?_; refine lookK_of (by assumption) ?_; refine gL (by tm_at "l") ?_; refine newL fun vq1 vs1 vF1 vl1 vg1 => ?_
    have e : vq1 ≠ t := by tm_at "n"
    refine c_mkInit vg1 fun σ1 c F1 hc hm1 hc1 => ?_
    have e2 : c ≠ t := by tm_at "n"
    have l2 : σ.length ≤ c := by tm_at "g"
    skip
    refine c_scoped_n (by tm_at "l") ?_
    refine gO (by tm_at "l") ?_; refine lookK_of (by assumption) ?_
    refine (mkS s).2 W _ ns vq1 c l.length [] σ1 _ hd1 hm1 hc1 (by simp; exact (lin [_] [.le (.v 0) (.n 1000)] (.v 0) (.n 1000000) (.refl true) hl)) fun σ2 F2 hm2 hc2 => ?_
    skip
    refine c_close_n (by tm_at "l") ?_
    skip
    refine c_emit hm2 hc2 (by simp [lim, hlen]; exact (linl [_] [.le (.v 0) (.n 1000)] (.v 0) (.n 1048576) (.refl true) hl)) fun σ3 F3 hm3 hc3 => ?_
    refine gO (by tm_at "l") ?_; refine gO (by tm_at "l") ?_
    have G : Fm [] σ σ3 := fmN2 (fmN2 (fmN1 vF1 F1 vl1) F2 vl1 l2) F3 vl1 l2
    exact h σ3 c G l2 (get_congr hc3 (by simp [S.rows, SL.rows, scR, scL, scLen]))
  | some o =>
    simp only [scI]
    refine enter ?_
    refine gO (by tm_at "l") ?_; refine lookK_of (by assumption) ?_; refine gL (by tm_at "l") ?_; refine newL fun vq1 vs1 vF1 vl1 vg1 => ?_
    have e : vq1 ≠ t := by tm_at "n"
    refine c_mkInit vg1 fun σ1 c F1 hc hm1 hc1 => ?_
    have e2 : c ≠ t := by tm_at "n"
    have l2 : σ.length ≤ c := by tm_at "g"
    skip
    refine c_scoped_s hm1 hc1 (by simp [lim]) fun σ2 F2 hm2 hc2 => ?_
    refine gO (by tm_at "l") ?_; refine lookK_of (by assumption) ?_
    refine (mkS s).2 W _ ns vq1 c l.length _ σ2 _ hd1 hm2 hc2 (by simp; exact (lin [_] [.le (.v 0) (.n 1000)] (.a (.n 1) (.v 0)) (.n 1000000) (.refl true) hl)) fun σ3 F3 hm3 hc3 => ?_
    skip
    refine c_close_s (pre := []) (s := o) (x := .int (-1)) (post := (s.rows 1 l.length).map Row.av) rfl hm3 (get_congr hc3 (by simp)) (by simp [lim, hlen]; exact (linl [_] [.le (.v 0) (.n 1000)] (.a (.v 0) (.n 1)) (.n 1048576) (.refl true) hl)) fun σ4 F4 hm4 hc4 => ?_
    skip
    refine c_emit hm4 hc4 (by simp [lim, hlen]; exact (linl [_] [.le (.v 0) (.n 1000)] (.a (.a (.v 0) (.n 1)) (.n 1)) (.n 1048576) (.refl true) hl)) fun σ5 F5 hm5 hc5 => ?_
    refine gO (by tm_at "l") ?_; refine gO (by tm_at "l") ?_
    have G : Fm [] σ σ5 := fmN2 (fmN2 (fmN2 (fmN2 (fmN1 vF1 F1 vl1) F2 vl1 l2) F3 vl1 l2) F4 vl1 l2) F5 vl1 l2
    refine h σ5 c G l2 (get_congr hc5 ?_)
    simp [S.rows, SL.rows, SL.len, scR, scL, scLen, hlen]
end
-- P22
section
set_option maxHeartbeats 1000000
open PySem
noncomputable def Row.targets : Row → List Int
  | .jump t => [t]
  | .unless _ t => [t]
  | .again _ t => [t]
  | .enter _ t => [t]
  | .matS _ _ t => [t]
  | .matC _ t => [t]
  | .fork ts _ => ts
  | _ => []
noncomputable def Row.falls : Row → Bool
  | .jump _ => false
  | .fin => false
  | .ret => false
  | _ => true
noncomputable def Row.isFork : Row → Bool
  | .fork .. => true
  | _ => false
noncomputable def Row.isJump : Row → Bool
  | .jump _ => true
  | _ => false
noncomputable def Row.Beh (r : Row) (x y : List Int) : Prop := match r with
  | .enter c _ => y = x ++ [c]
  | .leave c => x = y ++ [c]
  | _ => y = x
noncomputable abbrev scT (x : List Int) : AV := .tup (x.map .int)
section
variable {W n : Nat} {ns : List Int} {σ : Store}
theorem c_row_targets {r : Row} {Q : AV → Store → Prop} (h : Q (.tup (r.targets.map .int)) σ) : W2 (run W ns (n + 1) .row_targets [r.av] σ) Q := by
  cases r <;> first | exact enter h | (rename_i b _; cases b <;> exact enter h)
theorem c_falls {r : Row} {Q : AV → Store → Prop} (h : Q (.bool r.falls) σ) : W2 (run W ns (n + 1) .falls_through [r.av] σ) Q := by
  cases r <;> first | exact enter h | (rename_i b _; cases b <;> exact enter h)
theorem c_behind {r : Row} {x y : List Int} {Q : AV → Store → Prop} (hb : r.Beh x y) (hx : x.length ≤ 1000) (h : Q (scT y) σ) : W2 (run W ns (n + 1) .scopes_behind [r.av, scT x] σ) Q := by
  cases r
  case enter c t =>
    cases (show y = x ++ [c] from hb)
    refine enter ?_
    refine And.intro (by tm_at "w") ?_
    exact (congrArg (fun l => Q (.tup l) σ) (List.map_append : List.map AV.int (x ++ [c]) = _)).mp h
  case leave c =>
    cases (show x = y ++ [c] from hb)
    have e0 : ((y ++ [c]).map AV.int) = y.map .int ++ [.int c] := List.map_append
    have e1 : ((y ++ [c]).map AV.int).getLast? = some (.int c) := e0 ▸ List.getLast?_concat
    have e2 : ((y ++ [c]).map AV.int) ≠ [] := e0 ▸ List.append_ne_nil_of_right_ne_nil _ (List.cons_ne_nil _ _)
    refine enter ?_
    refine if_d (fun vh => ?_) (fun vh => ?_); rotate_left; refine lastK_of (by assumption) ?_; refine nk_d (fun vh => ?_) (fun vh => ?_); rotate_left; refine q_sliceTm (by first | assumption | (simp; done) | fail) ?_; rotate_left
    · exact absurd (List.length_eq_zero_iff.mp (Int.ofNat.inj vh)) e2
    · exact absurd rfl vh
    · exact (congrArg (fun l => Q (.tup l) σ) ((congrArg List.dropLast e0).trans (List.dropLast_concat : (y.map AV.int ++ [AV.int c]).dropLast = _))).mpr h
  all_goals cases (show y = x from hb) <;> first | exact enter h | (rename_i b _; cases b <;> exact enter h)
end
end
-- P23
section
set_option maxHeartbeats 1000000
open PySem
theorem contQ_to {I k : Vars → Store → Prop} {Q : Fl → Vars → Store → Prop} (h : ∀ ρ σ, I ρ σ → k ρ σ) : ∀ f ρ σ, contQ I Q f ρ σ → contQ k Q f ρ σ
  | .next, ρ, σ, q => h ρ σ q
  | .cont, ρ, σ, q => h ρ σ q
  | .ret _, _, _, q => q
theorem l_inv {step : AV → Vars → Store → (Fl → Vars → Store → Prop) → Prop} {it : List AV} {o : Option Nat} {Q : Fl → Vars → Store → Prop} (Inv : List AV → Vars → Store → Prop) (hok : ∀ l ρ σ (P : Prop), Inv l ρ σ → P → okK o it σ P)
    (hstep : ∀ v l ρ σ Q', (∀ f ρ' σ', contQ (Inv l) Q f ρ' σ' → Q' f ρ' σ') → Inv (v :: l) ρ σ → step v ρ σ Q') (hend : ∀ ρ σ, Inv [] ρ σ → Q .next ρ σ) : ∀ l ρ σ, Inv l ρ σ → wpLoop step it o l ρ σ Q
  | [], ρ, σ, h => hok _ _ _ _ h (hend _ _ h)
  | v :: l, ρ, σ, h => hok _ _ _ _ h (hstep v l ρ σ _ (contQ_to fun ρ1 σ1 q => l_inv Inv hok hstep hend l ρ1 σ1 q) h)
theorem range_drop (N : Nat) : ∀ i, i ≤ N → ((List.range (N - i)).map fun (j : Nat) => AV.int ((i : Int) + j)) = if i < N then AV.int i :: ((List.range (N - (i + 1))).map fun (j : Nat) => AV.int (((i + 1 : Nat) : Int) + j)) else [] := by
  intro i hi
  by_cases h : i < N
  · rw [if_pos h]
    obtain ⟨m, rfl⟩ : ∃ m, N = m + (i + 1) := ex_add h
    rw [Nat.add_sub_cancel, show m + (i + 1) - i = m + 1 from (congrArg (· - i) (by exact (Nat.le_antisymm (lin [_, _] [] (.a (.v 0) (.a (.v 1) (.n 1))) (.a (.a (.v 0) (.n 1)) (.v 1)) (.refl true) ) (lin [_, _] [] (.a (.a (.v 0) (.n 1)) (.v 1)) (.a (.v 0) (.a (.v 1) (.n 1))) (.refl true) )) : m + (i + 1) = m + 1 + i)).trans (Nat.add_sub_cancel ..), List.range_succ_eq_map]
    simp only [List.map_cons, List.map_map]
    refine congr (congrArg _ (by rw [Int.natCast_zero, Int.add_zero])) (List.map_congr_left fun j zz => ?_)
    exact congrArg AV.int (by show (i : Int) + ((j + 1 : Nat) : Int) = ((i + 1 : Nat) : Int) + j; rw [Int.natCast_add, Int.natCast_add]; exact (Int.add_left_comm ..).trans (Int.add_comm ..))
  · rw [if_neg h, Nat.sub_eq_zero_of_le (Nat.le_of_not_lt h)]
    rfl
theorem l_range {step : AV → Vars → Store → (Fl → Vars → Store → Prop) → Prop} {it : List AV} {Q : Fl → Vars → Store → Prop} (N : Nat) (Inv : Nat → Vars → Store → Prop)
    (hstep : ∀ i ρ σ Q', (∀ f ρ' σ', contQ (Inv (i + 1)) Q f ρ' σ' → Q' f ρ' σ') → i < N → Inv i ρ σ → step (.int (i : Nat)) ρ σ Q') (hend : ∀ ρ σ, Inv N ρ σ → Q .next ρ σ) {ρ : Vars} {σ : Store} (h : Inv 0 ρ σ) : wpLoop step it none (rangeI 0 (N : Nat)) ρ σ Q := by
  have key := l_inv (step := step) (it := it) (o := none) (Q := Q) (fun l ρ σ => ∃ i, i ≤ N ∧ l = ((List.range (N - i)).map fun (j : Nat) => AV.int ((i : Int) + j)) ∧ Inv i ρ σ)
    (fun l ρ σ P zz h => h) (fun v l ρ σ Q' vQ ⟨i, hi, e, h⟩ => by
      rw [range_drop N i hi] at e
      by_cases hlt : i < N
      · rw [if_pos hlt] at e
        cases e
        exact hstep i ρ σ Q' (fun f ρ' σ' q => vQ f ρ' σ' (contQ_to (fun zz zz q => ⟨i + 1, hlt, rfl, q⟩) f ρ' σ' q)) hlt h
      · rw [if_neg hlt] at e
        cases e) (fun ρ σ ⟨i, hi, e, h⟩ => by
      rw [range_drop N i hi] at e
      by_cases hlt : i < N
      · rw [if_pos hlt] at e
        cases e
      · have : i = N := by exact (Nat.le_antisymm hi (Nat.le_of_not_lt hlt))
        exact hend _ _ (this ▸ h))
  refine key _ ρ σ ⟨0, Nat.zero_le _, ?_, h⟩
  simp [rangeI]
theorem while_inv {test : Vars → Store → (AV → Store → Prop) → Prop} {body : Vars → Store → (Fl → Vars → Store → Prop) → Prop} {Q : Fl → Vars → Store → Prop} (Inv : Nat → Vars → Store → Prop)
    (hstep : ∀ m ρ σ Q', (∀ f ρ' σ', contQ (fun ρ' σ' => ∃ m', m' < m ∧ Inv m' ρ' σ') Q f ρ' σ' → Q' f ρ' σ') → Inv m ρ σ → test ρ σ fun v σ1 => boolK v fun c => wpIf c (body ρ σ1 Q') (Q .next ρ σ1)) : ∀ m W ρ σ, m < W → Inv m ρ σ → wpWhile test body W ρ σ Q := by
  intro m
  induction m using Nat.strongRecOn with
  | _ m ih =>
    intro W ρ σ hW h
    obtain ⟨W, rfl⟩ : ∃ j, W = j + 1 := ex_add (by exact (lin [_, _] [.lt (.v 0) (.v 1)] (.n 1) (.v 1) (.refl true) hW))
    exact hstep m ρ σ _ (contQ_to fun ρ1 σ1 ⟨m', h1, h2⟩ => ih m' h1 W ρ1 σ1 (by exact (linl [_, _, _] [.lt (.v 0) (.v 1), .lt (.v 1) (.a (.v 2) (.n 1))] (.v 0) (.v 2) (.refl true) h1 hW)) h2) h
theorem seqAt_rows {RS : List Row} {i : Nat} {r : Row} (h : RS[i]? = some r) : seqAt (RS.map Row.av) (i : Nat) = some r.av := by
  unfold seqAt
  rw [if_pos (by omega)]
  simp [h]
noncomputable def Row.isStop : Row → Bool
  | .fin => true
  | .ret => true
  | _ => false
structure Flow (Λ : Nat → List Int) (N : Nat) (a : Nat) (r : Row) : Prop where
  beh : ∃ y, r.Beh (Λ a) y ∧ (r.falls = true → a + 1 < N ∧ Λ (a + 1) = y)
  stop : r.isStop = true → Λ a = []
  tg : ∀ t ∈ r.targets, ∃ j : Nat, t = j ∧ j < N ∧ Λ j = if r.isFork then [] else Λ a
  few : r.targets.length ≤ 3
  short : (Λ a).length ≤ 1000
theorem c_target_faults {W n : Nat} {ns : List Int} {σ : Store} {c : Nat} {RS : List Row} {Λ : Nat → List Int} {Q : AV → Store → Prop} (hc : σ[c]? = some (.list (RS.map Row.av))) (hF : ∀ i r, RS[i]? = some r → Flow Λ RS.length i r) (hl : RS.length ≤ 1000)
    {last : Row} {pre : List Row} (hlast : RS = pre ++ [last]) (hfall : last.falls = false) (h : ∀ σ' q, Fm [] σ σ' → σ'[q]? = some (.list []) → Q (.cell q) σ') : W2 (run W ns (n + 2) .target_faults [.cell c] σ) Q := by
  refine enter ?_
  refine newL fun vq1 vs1 vF1 vl1 vg1 => ?_; refine gL (by tm_at "l") ?_; refine And.intro (by tm_at "w") ?_
  have e : vq1 ≠ c := by tm_at "n"
  have hc1 : vs1[c]? = some (.list (RS.map Row.av)) := by tm_at "l"
  rw [List.length_map]
  refine l_range RS.length (fun zz ρ σ => σ = vs1 ∧ ∃ x y, ρ = [some (.cell c), some (.cell vq1), x, y, none, none, none, none]) ?_ ?_ ⟨rfl, none, none, rfl⟩
  · intro i ρ σ2 Q' vQ hi h2
    obtain ⟨rfl, x, y, rfl⟩ := h2
    obtain ⟨r, hr⟩ : ∃ r, RS[i]? = some r := ⟨RS[i], List.getElem?_eq_getElem hi⟩
    have fl := hF i r hr
    have hsq := seqAt_rows hr
    refine x_list (by tm_at "l") (by tm_at "s") ?_
    refine c_row_targets ?_
    skip
    refine l_inv (fun l ρ σ => (∀ v ∈ l, v ∈ r.targets.map AV.int) ∧ σ = σ2 ∧ ∃ y, ρ = [some (.cell c), some (.cell vq1), some (.int i), y, none, none, none, none]) ?_ ?_ ?_ _ _ _ ⟨fun zz h => h, rfl, _, rfl⟩
    · intro l ρ σ P _ h
      exact h
    · intro v l ρ σ3 Q'' vQ h3
      obtain ⟨hm, rfl, y, rfl⟩ := h3
      obtain ⟨t, ht, rfl⟩ := List.mem_map.mp (hm v List.mem_cons_self)
      obtain ⟨j, rfl, hj, zz⟩ := fl.tg t ht
      refine gL (by tm_at "l") ?_; refine if_d (fun vh => ?_) (fun vh => ?_); refine app1 (by tm_at "l") (by tm_at "w") ?_; refine vQ _ _ _ ?_; rotate_left; refine vQ _ _ _ ?_; rotate_left
      · exact absurd vh (by simp; exact hj)
      · exact ⟨fun v hv => hm v (List.mem_cons_of_mem _ hv), rfl, _, rfl⟩
    · intro ρ σ3 h3
      obtain ⟨zz, rfl, y, rfl⟩ := h3
      refine vQ _ _ _ ?_; refine And.intro rfl ?_
      exact ⟨_, _, rfl⟩
  · intro ρ σ2 h2
    obtain ⟨rfl, x, y, rfl⟩ := h2
    have hsq : (RS.map Row.av).getLast? = some last.av := by
      subst hlast
      simp
    refine gL (by tm_at "l") ?_; refine if_d (fun vh => ?_) (fun vh => ?_); refine gL (by tm_at "l") ?_; refine app1 (by tm_at "l") (by tm_at "w") ?_; rotate_left; refine gL (by tm_at "l") ?_; refine lastK_of (by assumption) ?_; rotate_left
    · exact absurd vh (by subst hlast; simp; omega)
    · refine c_falls ?_
      rw [hfall]
      skip
      exact h _ vq1 (by tm_at "f") (by tm_at "l")
end
-- P24
section
set_option maxHeartbeats 1000000
open PySem
theorem plain_scT (x : List Int) : AV.plain 8 (scT x) = true := by simp [AV.plain, scT]
theorem lookI_put {v : AV} {j : Int} : ∀ (K : List (Int × AV)) (i : Int), lookI i (putI j v K) = if i = j then some v else lookI i K
  | [], i => by by_cases h : i = j <;> simp [putI, lookI, h, eq_comm]; intro e; exact absurd e.symm h
  | (y, u) :: r, i => by
    by_cases hy : y = j
    · subst hy
      by_cases h : i = y
      · subst h; simp [putI, lookI]
      · simp [putI, lookI, h, Ne.symm h]
    · have ih := lookI_put (v := v) (j := j) r i
      by_cases h : y = i
      · subst h; simp [putI, lookI, hy]
      · simp [putI, lookI, hy, h, ih]
theorem put_len {v : AV} {j : Int} : ∀ (K : List (Int × AV)), lookI j K = none → (putI j v K).length = K.length + 1
  | [], _ => rfl
  | (y, u) :: r, h => by
    by_cases hy : y = j
    · subst hy; simp [lookI] at h
    · simp [lookI, hy] at h
      simp [putI, hy, put_len r h]
theorem countP_one {p q : Nat → Bool} {j : Nat} (hp : p j = true) (hq : q j = false) (hne : ∀ x, x ≠ j → q x = p x) : ∀ l : List Nat, l.Nodup → j ∈ l → l.countP q + 1 = l.countP p
  | [], _, h => by cases h
  | x :: l, hn, h => by
    rw [List.nodup_cons] at hn
    by_cases hx : x = j
    · subst hx
      have : l.countP q = l.countP p := by
        refine List.countP_congr fun y hy => ?_
        have : y ≠ x := fun e => hn.1 (e ▸ hy)
        rw [hne y this]
      simp [List.countP_cons, hp, hq, this]
    · have hm : j ∈ l := by
        rcases List.mem_cons.mp h with e | e
        · exact absurd e.symm hx
        · exact e
      have := countP_one hp hq hne l hn.2 hm
      simp [List.countP_cons, hne x hx]
      exact (Nat.le_antisymm (lin [_, _, _] [.eq (.a (.v 0) (.n 1)) (.v 1)] (.a (.a (.v 0) (.v 2)) (.n 1)) (.a (.v 1) (.v 2)) (.refl true) this) (lin [_, _, _] [.qe (.v 0) (.a (.v 1) (.n 1))] (.a (.v 0) (.v 2)) (.a (.a (.v 1) (.v 2)) (.n 1)) (.refl true) this))
noncomputable def unk (N : Nat) (K : List (Int × AV)) : Nat := (List.range N).countP fun j => (lookI (j : Nat) K).isNone
theorem unk_put {N j : Nat} {v : AV} {K : List (Int × AV)} (hj : j < N) (h : lookI (j : Nat) K = none) : unk N (putI (j : Nat) v K) + 1 = unk N K := by
  refine countP_one (j := j) (by simp [h]) (by simp [lookI_put]) (fun x hx => ?_) _ List.nodup_range (List.mem_range.mpr hj)
  have : ((x : Nat) : Int) ≠ (j : Nat) := by omega
  simp [lookI_put, this]
structure SS (σ0 : Store) (c f k p : Nat) (RS : List Row) (Λ : Nat → List Int) (K : List (Int × AV)) (P : List AV) (σ : Store) : Prop where
  fm : Fm [] σ0 σ
  hc : σ[c]? = some (.list (RS.map Row.av))
  hf : σ[f]? = some (.list [])
  hk : σ[k]? = some (.dict K)
  hp : σ[p]? = some (.list P)
  pend : ∀ v ∈ P, ∃ j : Nat, v = .tup [.int j, scT (Λ j)] ∧ j < RS.length
  kn : ∀ i v, lookI i K = some v → ∃ j : Nat, i = j ∧ v = scT (Λ j)
  cnt : K.length + unk RS.length K = RS.length
inductive SInv (σ0 : Store) (c f k p : Nat) (RS : List Row) (Λ : Nat → List Int) : Nat → Vars → Store → Prop
  | mk {x4 x5 x6 x7 x8 : Option AV} {K : List (Int × AV)} {P : List AV} {σ : Store} : SS σ0 c f k p RS Λ K P σ → 5 * unk RS.length K + P.length ≤ 6000 →
    SInv σ0 c f k p RS Λ (5 * unk RS.length K + P.length) [some (.cell c), some (.cell f), some (.cell k), some (.cell p), x4, x5, x6, x7, x8, none, none, none, none, none] σ
inductive TInv (σ0 : Store) (c f k p : Nat) (RS : List Row) (Λ : Nat → List Int) (K : List (Int × AV)) (tot : Nat) (x4 x5 x6 x7 : Option AV) (T : List AV) : List AV → Vars → Store → Prop
  | mk {x8 : Option AV} {P l : List AV} {σ : Store} : SS σ0 c f k p RS Λ K P σ → P.length + l.length = tot → (∀ v ∈ l, v ∈ T) →
    TInv σ0 c f k p RS Λ K tot x4 x5 x6 x7 T l [some (.cell c), some (.cell f), some (.cell k), some (.cell p), x4, x5, x6, x7, x8, none, none, none, none, none] σ
theorem unk_nil (N : Nat) : unk N [] = N := (List.countP_eq_length.mpr fun zz zz => rfl).trans List.length_range
theorem nk_k {t : Bool} {A B : Prop} (h : B) (f : B → t = false → A) : wpIfN t A B := by cases t <;> first | exact f h rfl | exact h
theorem SS.push {σ0 : Store} {c f k p : Nat} {RS : List Row} {Λ : Nat → List Int} {K : List (Int × AV)} {P : List AV} {σ : Store} (I : SS σ0 c f k p RS Λ K P σ) (l : σ0.length ≤ p) (e1 : p ≠ c) (e2 : p ≠ f) (e3 : p ≠ k) {i : Nat} (hi : i < RS.length) :
    SS σ0 c f k p RS Λ K (P ++ [.tup [.int i, scT (Λ i)]]) (σ.set p (.list (P ++ [.tup [.int i, scT (Λ i)]]))) :=
  ⟨I.fm.setNew l, get_set_ne I.hc e1, get_set_ne I.hf e2, get_set_ne I.hk e3, get_set_eq (lt_of_get I.hp), fun v hv => (List.mem_append.mp hv).elim (I.pend v) fun hv => ⟨i, List.mem_singleton.mp hv, hi⟩, I.kn, I.cnt⟩
theorem SS.seen {σ0 : Store} {c f k p : Nat} {RS : List Row} {Λ : Nat → List Int} {K : List (Int × AV)} {P : List AV} {σ τ : Store} {j : Nat} (I : SS σ0 c f k p RS Λ K P σ) {P' : List AV} (hP : ∀ v ∈ P', v ∈ P) (hj : j < RS.length) (hn : lookI (j : Int) K = none) (h0 : Fm [] σ0 τ) (h1 : τ[c]? = some (.list (RS.map Row.av))) (h2 : τ[f]? = some (.list [])) (h3 : τ[k]? = some (.dict (putI (j : Int) (scT (Λ j)) K))) (h4 : τ[p]? = some (.list P')) :
    SS σ0 c f k p RS Λ (putI (j : Int) (scT (Λ j)) K) P' τ :=
  ⟨h0, h1, h2, h3, h4, fun v hv => I.pend v (hP v hv), fun i v hv => by
    by_cases e : i = j
    · rw [lookI_put, if_pos e] at hv; exact ⟨j, e, (Option.some.inj hv).symm⟩
    · rw [lookI_put, if_neg e] at hv; exact I.kn i v hv, by
    have a := put_len (v := scT (Λ j)) K hn
    have b := unk_put (v := scT (Λ j)) hj hn
    have c := I.cnt
    exact (Nat.le_antisymm (lin [_, _, _, _, _] [.eq (.v 0) (.a (.v 1) (.n 1)), .eq (.a (.v 2) (.n 1)) (.v 3), .eq (.a (.v 1) (.v 3)) (.v 4)] (.a (.v 0) (.v 2)) (.v 4) (.refl true) a b c) (lin [_, _, _, _, _] [.qe (.v 0) (.a (.v 1) (.v 2)), .qe (.a (.v 1) (.n 1)) (.v 3), .qe (.v 2) (.a (.v 4) (.n 1))] (.v 0) (.a (.v 3) (.v 4)) (.refl true) c a b))⟩
theorem row_kind (r : Row) : ∃ tg L, r.av = .tup (.str tg :: L) ∧ tg < 70 ∧ (tg = 18 → r.isFork = true) ∧ (tg ≠ 18 → r.isFork = false) ∧ (r.falls = false → tg ≠ 14 → r.isStop = true) := by
  cases r
  case trig b e => cases b <;> exact ⟨_, _, rfl, by decide, fun h => absurd h (by decide), fun zz => rfl, fun h => Bool.noConfusion h⟩
  all_goals exact ⟨_, _, rfl, by decide, fun h => by first | rfl | exact absurd h (by decide), fun h => by first | rfl | exact absurd rfl h, fun h g => by first | rfl | exact Bool.noConfusion h | exact absurd rfl g⟩
theorem c_scope_faults {W n : Nat} {ns : List Int} {σ : Store} {c : Nat} {RS : List Row} {Λ : Nat → List Int} {Q : AV → Store → Prop} (hc : σ[c]? = some (.list (RS.map Row.av))) (hF : ∀ i r, RS[i]? = some r → Flow Λ RS.length i r) (hl : RS.length ≤ 1000) (h0 : 0 < RS.length) (hW : 6000 < W) (hΛ : Λ 0 = [])
    (h : ∀ σ' q, Fm [] σ σ' → σ'[q]? = some (.list []) → Q (.cell q) σ') : W2 (run W ns (n + 2) .scope_faults [.cell c] σ) Q := by
  refine enter ?_
  refine newL fun vq1 vs1 vF1 vl1 vg1 => ?_; refine newL fun vq2 vs2 vF2 vl2 vg2 => ?_; refine newL fun vq3 vs3 vF3 vl3 vg3 => ?_
  have e1 : vq1 ≠ c := by tm_at "n"
  have e2 : vq2 ≠ c := by tm_at "n"
  have e3 : vq3 ≠ c := by tm_at "n"
  have e12 : vq2 ≠ vq1 := by tm_at "n"
  have e13 : vq3 ≠ vq1 := by tm_at "n"
  have e23 : vq3 ≠ vq2 := by tm_at "n"
  have l1 : σ.length ≤ vq1 := by tm_at "g"
  have l2 : σ.length ≤ vq2 := by tm_at "g"
  have l3 : σ.length ≤ vq3 := by tm_at "g"
  have un := unk_nil RS.length
  have start : SS σ c vq1 vq2 vq3 RS Λ [] [.tup [.int 0, .tup []]] vs3 := ⟨by tm_at "f", by tm_at "l", by tm_at "l", by tm_at "l", by tm_at "l", fun v hv => ⟨0, by rw [List.mem_singleton.mp hv, hΛ]; rfl, h0⟩, fun i v hv => (nomatch hv), by rw [un]; exact Nat.zero_add _⟩
  have un2 : 5 * unk RS.length [] + 1 ≤ 6000 := by rw [un]; exact Nat.le_trans (Nat.add_le_add_right (Nat.mul_le_mul_left 5 hl) 1) (by decide)
  refine while_inv (SInv σ c vq1 vq2 vq3 RS Λ) ?_ _ _ _ _ (Nat.lt_of_le_of_lt un2 hW) (.mk start un2)
  clear start un un2 vF1 vF2 vF3 vg1 vg2 vg3 vl1 vl2 vl3
  intro m ρ σ2 Q' vQ J
  cases J with
  | @mk x4 x5 x6 x7 x8 K P _ I hm => ?_
  have hp := I.hp
  rcases List.eq_nil_or_concat P with hP | ⟨P', v, hP⟩
  · subst hP
    refine gL (by tm_at "l") ?_
    refine q_sortedL (xs := []) I.hf rfl (by decide) (newL fun q σ' hF hl hg => ?_)
    skip
    exact h σ' q (I.fm.trans hF) hg
  · rw [List.concat_eq_append] at hP
    subst hP
    obtain ⟨j, hv, hj⟩ := I.pend v (List.mem_append_right _ List.mem_cons_self)
    subst hv
    have hgl : (P' ++ [AV.tup [.int j, scT (Λ j)]]).getLast? = some (.tup [.int j, scT (Λ j)]) := List.getLast?_concat
    have hk2 := I.hk
    have hc2 := I.hc
    have hf2 := I.hf
    have F2 := I.fm
    rw [List.length_append, List.length_singleton] at hm
    have hK1 : K.length < lim := Nat.lt_of_le_of_lt (by have := I.cnt; exact (lin [_, _, _] [.eq (.a (.v 0) (.v 1)) (.v 2), .le (.v 2) (.n 1000)] (.v 0) (.n 1000) (.refl true) this hl) : K.length ≤ 1000) (by decide)
    cases hkn : lookI (j : Int) K with
    | some u =>
      obtain ⟨j', ej, hu⟩ := I.kn _ _ hkn
      obtain rfl := Int.ofNat.inj ej
      subst hu
      refine gL (by tm_at "l") ?_; refine if_d (fun vh => ?_) (fun vh => ?_); refine gL (by tm_at "l") ?_; refine gL (by tm_at "l") ?_; refine ⟨_, by tm_at "s", ?_⟩; refine gD (by tm_at "l") ?_; refine if_b (fun vh => ?_) (fun vh => ?_); refine x_dict (by tm_at "l") (by tm_at "s") ?_; rotate_left; refine y_dict (by tm_at "l") (by tm_at "w") ?_; rotate_left; refine q_sortedL (by tm_at "l") (by tm_at "s") (by first | assumption | decide) ?_; refine newL fun vq4 vs4 vF4 vl4 vg4 => ?_; rotate_left
      · refine e_plain (plain_scT _) (plain_scT _) ?_
        refine nk_y (decide_eq_true rfl) ?_
        refine vQ _ _ _ ?_
        refine ⟨5 * unk RS.length K + P'.length, by rw [List.length_append]; exact Nat.lt_succ_self _, .mk (K := K) (P := P') ⟨by tm_at "f", by tm_at "l", by tm_at "l", by tm_at "l", get_congr (by tm_at "l") List.dropLast_concat, fun v hv => I.pend v (List.mem_append_left _ hv), I.kn, I.cnt⟩ (by exact (lin [_, _] [.le (.a (.m 5 (.v 0)) (.a (.v 1) (.n 1))) (.n 6000)] (.a (.m 5 (.v 0)) (.v 1)) (.n 6000) (.refl true) hm))⟩
      · rw [hkn] at vh
        cases vh
      · exact absurd (by simp) vh
    | none =>
      obtain ⟨r, hr⟩ : ∃ r, RS[j]? = some r := ⟨RS[j], List.getElem?_eq_getElem hj⟩
      have fl := hF j r hr
      have hsq := seqAt_rows hr
      obtain ⟨y, hby, hfall⟩ := fl.beh
      have hun := unk_put (v := scT (Λ j)) hj hkn
      have htg : ∀ t ∈ r.targets, ∃ i : Nat, t = i ∧ i < RS.length ∧ Λ i = if r.isFork then [] else Λ j := fl.tg
      have hfew := fl.few
      have hlen := fl.short
      obtain ⟨tg, L, hrv, htg1, hfk1, hfk2, hst⟩ := row_kind r
      rw [hrv] at hsq
      have cb : ∀ {W n ns σ} {Q : AV → Store → Prop}, Q (scT y) σ → W2 (run W ns (n + 1) .scopes_behind [.tup (.str tg :: L), scT (Λ j)] σ) Q := by rw [← hrv]; exact c_behind hby hlen
      have cf : ∀ {W n ns σ} {Q : AV → Store → Prop}, Q (.bool r.falls) σ → W2 (run W ns (n + 1) .falls_through [.tup (.str tg :: L)] σ) Q := by rw [← hrv]; exact c_falls
      have ct : ∀ {W n ns σ} {Q : AV → Store → Prop}, Q (.tup (r.targets.map .int)) σ → W2 (run W ns (n + 1) .row_targets [.tup (.str tg :: L)] σ) Q := by rw [← hrv]; exact c_row_targets
      refine gL (by tm_at "l") ?_; refine if_d (fun vh => ?_) (fun vh => ?_); refine gL (by tm_at "l") ?_; refine gL (by tm_at "l") ?_; refine ⟨_, by tm_at "s", ?_⟩; refine gD (by tm_at "l") ?_; refine if_b (fun vh => ?_) (fun vh => ?_); rotate_left; refine y_dict (by tm_at "l") (by tm_at "w") ?_; refine x_list (by tm_at "l") (by tm_at "s") ?_; rotate_left; refine q_sortedL (by tm_at "l") (by tm_at "s") (by first | assumption | decide) ?_; refine newL fun vq4 vs4 vF4 vl4 vg4 => ?_; rotate_left
      · rw [hkn] at vh
        cases vh
      · refine cb ?_
        skip
        refine cf ?_
        refine nk_k (t := r.falls) ?_ ?_
        · refine ct ?_
          skip
          refine l_inv (TInv σ c vq1 vq2 vq3 RS Λ (putI (j : Int) (scT (Λ j)) K) (P'.length + r.targets.length) (some (.int j)) (some (scT (Λ j))) (some (.tup (.str tg :: L))) (some (scT y)) (r.targets.map .int)) ?_ ?_ ?_ _ _ _ (.mk (I.seen (fun v hv => List.mem_append_left _ hv) hj hkn (by tm_at "f") (by tm_at "l") (by tm_at "l") (by tm_at "l") (get_congr (by tm_at "l") List.dropLast_concat)) (congrArg (P'.length + ·) (List.length_map ..)) fun zz h => h)
          · intro l ρ σ P _ h
            exact h
          · intro v l ρ σ3 Q'' vQ J3
            cases J3 with
            | @mk x8 P3 _ _ I3 hlen3 hmem => ?_
            obtain ⟨t, ht, rfl⟩ := List.mem_map.mp (hmem v List.mem_cons_self)
            obtain ⟨i, rfl, hi, hΛi⟩ := htg t ht
            have hp3 := I3.hp
            have hlen4 : (P3 ++ [AV.tup [.int i, scT (Λ i)]]).length + l.length = P'.length + r.targets.length := by rw [List.length_append, ← hlen3]; exact Nat.add_right_comm ..
            have hP3 : P3.length < lim := Nat.lt_of_le_of_lt (by rw [List.length_cons] at hlen3; exact (lin [_, _, _, _, _] [.eq (.a (.v 0) (.a (.v 1) (.n 1))) (.a (.v 2) (.v 3)), .le (.a (.m 5 (.v 4)) (.a (.v 2) (.n 1))) (.n 6000), .le (.v 3) (.n 3)] (.v 0) (.n 6003) (.refl true) hlen3 hm hfew) : P3.length ≤ 6003) (by decide)
            have I4 := I3.push l3 e3 e13 e23 hi
            skip
            refine if_y (ble69 htg1) ?_
            refine if_y (t := Nat.ble 18 69) rfl ?_
            by_cases e18 : tg = 18
            · rw [hfk1 e18] at hΛi
              rw [show Λ i = [] from hΛi] at I4 hlen4
              subst e18
              refine app1 (by tm_at "l") (by tm_at "w") ?_; refine vQ _ _ _ ?_
              exact .mk I4 hlen4 fun v hv => hmem v (List.mem_cons_of_mem _ hv)
            · rw [hfk2 e18] at hΛi
              rw [show Λ i = Λ j from hΛi] at I4 hlen4
              refine if_z (beqF e18) ?_
              refine app1 (by tm_at "l") (by tm_at "w") ?_; refine vQ _ _ _ ?_
              exact .mk I4 hlen4 fun v hv => hmem v (List.mem_cons_of_mem _ hv)
          · intro ρ σ3 J3
            cases J3 with
            | @mk x8 P3 _ _ I3 hlen3 hmem => ?_
            have hlen3 : P3.length = P'.length + r.targets.length := hlen3
            skip
            refine cf ?_
            have h5 : 5 * unk RS.length (putI (j : Int) (scT (Λ j)) K) + 5 = 5 * unk RS.length K := by rw [← hun, Nat.mul_add]
            cases hfl : r.falls with
            | false =>
              refine vQ _ _ _ ?_
              exact ⟨_, by rw [List.length_append, List.length_singleton]; exact (linl [_, _, _, _, _] [.eq (.v 0) (.a (.v 1) (.v 2)), .eq (.a (.m 5 (.v 3)) (.n 5)) (.m 5 (.v 4)), .le (.v 2) (.n 3)] (.a (.m 5 (.v 3)) (.v 0)) (.a (.m 5 (.v 4)) (.a (.v 1) (.n 1))) (.refl true) hlen3 h5 hfew), .mk I3 (by exact (lin [_, _, _, _, _] [.eq (.v 0) (.a (.v 1) (.v 2)), .eq (.a (.m 5 (.v 3)) (.n 5)) (.m 5 (.v 4)), .le (.a (.m 5 (.v 4)) (.a (.v 1) (.n 1))) (.n 6000), .le (.v 2) (.n 3)] (.a (.m 5 (.v 3)) (.v 0)) (.n 6000) (.refl true) hlen3 h5 hm hfew))⟩
            | true =>
              obtain ⟨hj1, hly⟩ := hfall hfl
              have I4 := I3.push l3 e3 e13 e23 hj1
              rw [hly] at I4
              have hp3 := I3.hp
              have hP3 : P3.length < lim := Nat.lt_of_le_of_lt (by exact (lin [_, _, _, _] [.eq (.v 0) (.a (.v 1) (.v 2)), .le (.a (.m 5 (.v 3)) (.a (.v 1) (.n 1))) (.n 6000), .le (.v 2) (.n 3)] (.v 0) (.n 6003) (.refl true) hlen3 hm hfew) : P3.length ≤ 6003) (by decide)
              refine app1 (by tm_at "l") (by tm_at "w") ?_; refine vQ _ _ _ ?_
              exact ⟨_, by rw [List.length_append, List.length_singleton, List.length_append, List.length_singleton]; exact (linl [_, _, _, _, _] [.eq (.a (.m 5 (.v 0)) (.n 5)) (.m 5 (.v 1)), .eq (.v 2) (.a (.v 3) (.v 4)), .le (.v 4) (.n 3)] (.a (.m 5 (.v 0)) (.a (.v 2) (.n 1))) (.a (.m 5 (.v 1)) (.a (.v 3) (.n 1))) (.refl true) h5 hlen3 hfew), .mk I4 (by rw [List.length_append, List.length_singleton]; exact (lin [_, _, _, _, _] [.eq (.a (.m 5 (.v 0)) (.n 5)) (.m 5 (.v 1)), .eq (.v 2) (.a (.v 3) (.v 4)), .le (.a (.m 5 (.v 1)) (.a (.v 3) (.n 1))) (.n 6000), .le (.v 4) (.n 3)] (.a (.m 5 (.v 0)) (.a (.v 2) (.n 1))) (.n 6000) (.refl true) h5 hlen3 hm hfew))⟩
        · intro hB hf
          refine if_y (ble69 htg1) ?_
          refine if_y (t := Nat.ble 14 69) rfl ?_
          by_cases e14 : tg = 14
          · subst e14
            exact hB
          · refine if_z (beqF e14) ?_
            refine if_d (fun vh => ?_) (fun vh => ?_); refine app1 (by tm_at "l") (by tm_at "w") ?_; rotate_left; rotate_left
            · exact absurd vh (by rw [fl.stop (hst hf e14)]; exact fun h => nomatch h)
            · exact hB
      · exact absurd (by simp) vh
end
-- P25
section
set_option maxHeartbeats 1000000
open PySem
noncomputable def Row.seen? : Row → Option AV
  | .setE k n => some (Row.setE k n).av
  | .setL k _ => some (.tup [.str 28, .int k, .none])
  | .save _ n => some (.tup [.str 47, sig n])
  | .delay n => some (Row.delay n).av
  | .awaitP n => some (Row.awaitP n).av
  | .awaitA n => some (Row.awaitA n).av
  | .waitfor n => some (.tup [.str 46, sig n])
  | .nba0 n => some (Row.nba0 n).av
  | .nba1 n d => some (Row.nba1 n d).av
  | .trig b n => some (Row.trig b n).av
  | .call n => some (Row.call n).av
  | .sys n => some (Row.sys n).av
  | _ => none
noncomputable def Row.kept? : Row → Option Int
  | .save s _ => some s
  | .times s _ => some s
  | _ => none
noncomputable def Row.left? : Row → Option Int
  | .leave c => some c
  | _ => none
noncomputable def Row.fork? : Row → Option Nat
  | .fork ts _ => some ts.length
  | _ => none
noncomputable def tagOf (r : Row) : Nat := match r.av with
  | .tup (.str n :: _) => n
  | _ => 0
noncomputable def opens (RS : List Row) : Row → Option (Int × Nat)
  | .enter c t => (RS[(t - 1).toNat]?).map fun r => (c, tagOf r)
  | _ => none
structure Ctx (RS : List Row) (i : Nat) (r : Row) : Prop where
  setL : ∀ k s, r = .setL k s → 2 ≤ i ∧ ∃ n, RS[i - 2]? = some (.save s n)
  enter : ∀ c t, r = .enter c t → ∃ j : Nat, t = j + 1 ∧ ∃ r', RS[j]? = some r'
  fork : ∀ ts c, r = .fork ts c → RS[i + 1]? = some .join ∧ sortI ts = ts ∧ ts.length ≤ 3 ∧ ts ≠ [] ∧ ∀ t ∈ ts.tail, ∃ j : Nat, t = j + 1 ∧ RS[j]? = some .fin
theorem av_tag (r : Row) : ∃ L, r.av = .tup (.str (tagOf r) :: L) ∧ tagOf r < 70 := by
  cases r
  case trig b e => cases b <;> exact ⟨_, rfl, by simp [tagOf]⟩
  all_goals exact ⟨_, rfl, by simp [tagOf]⟩
theorem e_self {a : AV} {σ : Store} {K : Bool → Prop} (ha : AV.plain 8 a = true) (q : K true) : W1 (eqV a a σ) K := e_plain ha ha ((congrArg K (decide_eq_true rfl)).mpr q)
theorem c_law_seen {W n : Nat} {ns : List Int} {σ : Store} {c i : Nat} {RS : List Row} {r : Row} {v : AV} {Q : AV → Store → Prop} (hc : σ[c]? = some (.list (RS.map Row.av))) (hr : RS[i]? = some r) (hv : r.seen? = some v) (hx : Ctx RS i r) (h : Q v σ) : W2 (run W ns (n + 1) .law_seen [.cell c, .int (i : Nat)] σ) Q := by
  have hsq := seqAt_rows hr
  cases r
  case setE k n =>
    cases hv
    refine enter ?_
    refine x_list (by tm_at "l") (by tm_at "s") ?_
    exact h
  case setL k s =>
    cases hv
    obtain ⟨h2, m, hm⟩ := hx.setL k s rfl
    have hsq2 : seqAt (RS.map Row.av) ((i : Int) - 2) = some (Row.save s m).av := by
      have e : ((i : Int) - 2) = ((i - 2 : Nat) : Int) := by omega
      rw [e]
      exact seqAt_rows hm
    refine enter ?_
    refine x_list (by tm_at "l") (by tm_at "s") ?_; refine x_list (by tm_at "l") (by tm_at "s") ?_
    refine e_self (a := loc s) rfl ?_
    skip
    exact h
  case waitfor n =>
    cases hv
    refine enter ?_
    refine x_list (by tm_at "l") (by tm_at "s") ?_
    refine e_self (a := .tup [.int n]) rfl ?_
    skip
    exact h
  case trig b e =>
    cases b
    · cases hv
      refine enter ?_
      refine x_list (by tm_at "l") (by tm_at "s") ?_
      exact h
    · cases hv
      refine enter ?_
      refine x_list (by tm_at "l") (by tm_at "s") ?_
      exact h
  case save s n =>
    cases hv
    refine enter ?_
    refine x_list (by tm_at "l") (by tm_at "s") ?_
    exact h
  case delay n =>
    cases hv
    refine enter ?_
    refine x_list (by tm_at "l") (by tm_at "s") ?_
    exact h
  case awaitP n =>
    cases hv
    refine enter ?_
    refine x_list (by tm_at "l") (by tm_at "s") ?_
    exact h
  case awaitA n =>
    cases hv
    refine enter ?_
    refine x_list (by tm_at "l") (by tm_at "s") ?_
    exact h
  case nba0 n =>
    cases hv
    refine enter ?_
    refine x_list (by tm_at "l") (by tm_at "s") ?_
    exact h
  case nba1 n d =>
    cases hv
    refine enter ?_
    refine x_list (by tm_at "l") (by tm_at "s") ?_
    exact h
  case call n =>
    cases hv
    refine enter ?_
    refine x_list (by tm_at "l") (by tm_at "s") ?_
    exact h
  case sys n =>
    cases hv
    refine enter ?_
    refine x_list (by tm_at "l") (by tm_at "s") ?_
    exact h
  all_goals cases hv
end
-- P26
section
set_option maxHeartbeats 1000000
open PySem
noncomputable abbrev intL (l : List Int) : List AV := l.map .int
noncomputable abbrev natL (l : List Nat) : List AV := l.map fun (i : Nat) => AV.int (i : Int)
structure SH (σ0 : Store) (v1 v2 v3 v4 v5 : Nat) (RS : List Row) (i : Nat) (Sx : List AV) (Kx : List Int) (Ox : List (Int × Nat)) (Lx : List Int) (Fx : List Nat) (σ : Store) : Prop where
  fm : Fm [] σ0 σ
  h1 : σ[v1]? = some (.list Sx)
  h2 : σ[v2]? = some (.list (intL Kx))
  h3 : σ[v3]? = some (.list (Ox.map pairAV))
  h4 : σ[v4]? = some (.list (intL Lx))
  h5 : σ[v5]? = some (.list (natL Fx))
  eS : Sx = (RS.take i).filterMap Row.seen?
  eK : Kx = (RS.take i).filterMap Row.kept?
  eO : Ox = (RS.take i).filterMap (opens RS)
  eL : Lx = (RS.take i).filterMap Row.left?
  eF : Fx = (RS.take i).filterMap Row.fork?
inductive HInv (σ0 : Store) (c f a v1 v2 v3 v4 v5 : Nat) (base slots : Int) (RS : List Row) (i : Nat) : Vars → Store → Prop
  | mk {x10 x11 x12 : Option AV} {Sx : List AV} {Kx : List Int} {Ox : List (Int × Nat)} {Lx : List Int} {Fx : List Nat} {σ : Store} : SH σ0 v1 v2 v3 v4 v5 RS i Sx Kx Ox Lx Fx σ →
    HInv σ0 c f a v1 v2 v3 v4 v5 base slots RS i [some (.cell c), some (.int base), some (.int slots), some (.cell f), some (.cell a), some (.cell v1), some (.cell v2), some (.cell v3), some (.cell v4), some (.cell v5), x10, x11, x12, none, none, none, none, none] σ
theorem SH.next {σ0 : Store} {v1 v2 v3 v4 v5 : Nat} {RS : List Row} {i : Nat} {r : Row} {Sx : List AV} {Kx : List Int} {Ox : List (Int × Nat)} {Lx : List Int} {Fx : List Nat} {σ σ' : Store} (I : SH σ0 v1 v2 v3 v4 v5 RS i Sx Kx Ox Lx Fx σ) (hr : RS[i]? = some r) {Sy : List AV} {Ky : List Int} {Oy : List (Int × Nat)} {Ly : List Int} {Fy : List Nat}
    (F : Fm [] σ0 σ') (h1 : σ'[v1]? = some (.list (Sx ++ Sy))) (h2 : σ'[v2]? = some (.list (intL Kx ++ intL Ky))) (h3 : σ'[v3]? = some (.list (Ox.map pairAV ++ Oy.map pairAV))) (h4 : σ'[v4]? = some (.list (intL Lx ++ intL Ly))) (h5 : σ'[v5]? = some (.list (natL Fx ++ natL Fy)))
    (q1 : [r].filterMap Row.seen? = Sy) (q2 : [r].filterMap Row.kept? = Ky) (q3 : [r].filterMap (opens RS) = Oy) (q4 : [r].filterMap Row.left? = Ly) (q5 : [r].filterMap Row.fork? = Fy) : SH σ0 v1 v2 v3 v4 v5 RS (i + 1) (Sx ++ Sy) (Kx ++ Ky) (Ox ++ Oy) (Lx ++ Ly) (Fx ++ Fy) σ' := by
  have hT : RS.take (i + 1) = RS.take i ++ [r] := by rw [List.take_add_one, hr]; rfl
  refine ⟨F, h1, ?_, ?_, ?_, ?_, ?_, ?_, ?_, ?_, ?_⟩
  · rw [h2, ← List.map_append]
  · rw [h3, ← List.map_append]
  · rw [h4, ← List.map_append]
  · rw [h5, ← List.map_append]
  · rw [hT, List.filterMap_append, q1, I.eS]
  · rw [hT, List.filterMap_append, q2, I.eK]
  · rw [hT, List.filterMap_append, q3, I.eO]
  · rw [hT, List.filterMap_append, q4, I.eL]
  · rw [hT, List.filterMap_append, q5, I.eF]
theorem fmN {α β : Type} {f : α → Option β} {r : α} (h : f r = none) : [r].filterMap f = [] := by rw [List.filterMap_cons_none h]; rfl
theorem fmS {α β : Type} {f : α → Option β} {r : α} {v : β} (h : f r = some v) : [r].filterMap f = [v] := by rw [List.filterMap_cons_some h]; rfl
theorem app0 {σ : Store} {c : Nat} {l : List AV} (h : σ[c]? = some (.list l)) : σ[c]? = some (.list (l ++ [])) := by rw [List.append_nil]; exact h
inductive SeenTag (RS : List Row) : Row → Prop
  | save (s n) : SeenTag RS (.save s n)
  | times (s n) : SeenTag RS (.times s n)
  | enter (c t) : SeenTag RS (.enter c t)
  | leave (c) : SeenTag RS (.leave c)
  | fork (ts c) : SeenTag RS (.fork ts c)
  | yes {r : Row} (tg L v) : r.av = .tup (.str tg :: L) → tg < 70 → r.kept? = none → opens RS r = none → r.left? = none → r.fork? = none → decide (AV.str tg ∈ [AV.str 47, .str 51]) = false → r.seen? = some v →
      decide (AV.str tg ∈ [AV.str 28, .str 29, .str 47, .str 30, .str 31, .str 48, .str 32, .str 33, .str 9, .str 10]) = true → SeenTag RS r
  | no {r : Row} (tg L) : r.av = .tup (.str tg :: L) → tg < 70 → r.kept? = none → opens RS r = none → r.left? = none → r.fork? = none → decide (AV.str tg ∈ [AV.str 47, .str 51]) = false → r.seen? = none →
      decide (AV.str tg ∈ [AV.str 28, .str 29, .str 47, .str 30, .str 31, .str 48, .str 32, .str 33, .str 9, .str 10]) = false → tg ≠ 21 → tg ≠ 22 → tg ≠ 18 → SeenTag RS r
theorem seen_tags (RS : List Row) (r : Row) : SeenTag RS r := by
  cases r
  case save s n => exact .save s n
  case times s n => exact .times s n
  case enter c t => exact .enter c t
  case leave c => exact .leave c
  case fork ts c => exact .fork ts c
  case trig b e => cases b <;> exact .yes _ _ _ rfl (by decide) rfl rfl rfl rfl rfl rfl rfl
  all_goals first
    | exact .yes _ _ _ rfl (by decide) rfl rfl rfl rfl rfl rfl rfl
    | exact .no _ _ rfl (by decide) rfl rfl rfl rfl rfl rfl rfl (by decide) (by decide) (by decide)
theorem intsOf_intL : ∀ l : List Int, intsOf (intL l) = some l
  | [] => rfl
  | x :: l => by
    have := intsOf_intL l
    simp only [intL, List.map_cons, intsOf] at this ⊢
    rw [this]
    rfl
theorem plain_ints (l : List Int) : (intL l).all (AV.plain 8) = true := by simp [AV.plain]
theorem plain_nats (l : List Nat) : (natL l).all (AV.plain 8) = true := by simp [AV.plain]
end
-- P27
section
set_option maxHeartbeats 2000000
open PySem
theorem insI_le {x : Int} : ∀ {l : List Int}, (∀ y ∈ l, x ≤ y) → insI x l = x :: l
  | [], _ => rfl
  | y :: l, h => by rw [insI, if_pos (h y List.mem_cons_self)]
theorem sortI_id : ∀ {l : List Int}, l.Pairwise (· ≤ ·) → sortI l = l
  | [], _ => rfl
  | x :: l, h => by
    rw [List.pairwise_cons] at h
    rw [sortI, sortI_id h.2, insI_le h.1]
theorem sort_range (k b : Nat) : sortI ((List.range k).map fun (j : Nat) => ((b : Int) + (j : Int))) = (List.range k).map fun (j : Nat) => ((b : Int) + (j : Int)) := by
  refine sortI_id ?_
  rw [List.pairwise_map]
  exact List.pairwise_lt_range.imp fun h => by omega
theorem rangeI_eq (k b : Nat) : rangeI (b : Nat) (b + k : Nat) = intL ((List.range k).map fun (j : Nat) => ((b : Int) + (j : Int))) := by
  have e : (((b + k : Nat) : Int) - (b : Int)).toNat = k := by omega
  unfold rangeI intL
  rw [e, List.map_map]
  rfl
theorem plain_ints' (x y : Int) : (rangeI x y).all (AV.plain 8) = true := by simp [rangeI, AV.plain]
theorem loop_pairs {te el : Vars → Store → (AV → Store → Prop) → Prop} {n : Nat} {it : List AV} {o : Option Nat} {σ : Store} (R : Option AV → Vars) (hok : ∀ P : Prop, P → okK o it σ P)
    (hs : ∀ (p : Int × Nat) x r acc QL, acc.length < lim → wpComp te el n it o r (acc ++ [.int p.1]) (R (some (pairAV p))) σ QL → wpComp te el n it o (pairAV p :: r) acc (R x) σ QL) :
    ∀ (l : List (Int × Nat)) (acc : List AV) (x : Option AV) (QL : List AV → Store → Prop), acc.length + l.length < lim → QL (acc ++ l.map fun p => .int p.1) σ → wpComp te el n it o (l.map pairAV) acc (R x) σ QL
  | [], acc, x, QL, _, h => hok _ (show QL acc σ by simpa using h)
  | p :: l, acc, x, QL, hl, h => by
    simp only [List.length_cons] at hl
    refine hs p x _ acc QL (by exact (linl [_, _, _] [.lt (.a (.v 0) (.a (.v 1) (.n 1))) (.v 2)] (.v 0) (.v 2) (.refl true) hl)) (loop_pairs R hok hs l _ _ QL (by simp; exact (linl [_, _, _] [.lt (.a (.v 0) (.a (.v 1) (.n 1))) (.v 2)] (.a (.a (.v 0) (.n 1)) (.v 1)) (.v 2) (.refl true) hl)) (by simpa using h))
theorem c_law_shape {W n : Nat} {ns : List Int} {σ : Store} {c f a f0 f1 b k : Nat} {RS : List Row} {ACTS : List AV} {op : List (Int × Nat)} {fk : List Nat} {Q : AV → Store → Prop}
    (hc : σ[c]? = some (.list (RS.map Row.av))) (hf : σ[f]? = some (.list [.cell f0, .cell f1])) (hf0 : σ[f0]? = some (.list (op.map pairAV))) (hf1 : σ[f1]? = some (.list (natL fk))) (ha : σ[a]? = some (.list ACTS))
    (hx : ∀ i r, RS[i]? = some r → Ctx RS i r) (hl : RS.length ≤ 1000) (hS : RS.filterMap Row.seen? = ACTS) (hK : RS.filterMap Row.kept? = (List.range k).map fun (j : Nat) => ((b : Int) + (j : Int))) (hO : RS.filterMap (opens RS) = op)
    (hL : sortI (RS.filterMap Row.left?) = sortI (op.map (·.1))) (hF : RS.filterMap Row.fork? = fk) (hk : k < 64) (hb : b ≤ 10) (hop : op.length < 64) (hll : (RS.filterMap Row.left?).length < 64) (hpa : ACTS.all (AV.plain 8) = true) (hop2 : (op.map pairAV).all (AV.plain 8) = true)
    (h : ∀ σ', Q (.bool true) σ') : W2 (run W ns (n + 2) .law_shape [.cell c, .int b, .int (b + k : Nat), .cell f, .cell a] σ) Q := by
  refine enter ?_
  refine newL fun vq1 vs1 vF1 vl1 vg1 => ?_; refine newL fun vq2 vs2 vF2 vl2 vg2 => ?_; refine newL fun vq3 vs3 vF3 vl3 vg3 => ?_; refine newL fun vq4 vs4 vF4 vl4 vg4 => ?_; refine newL fun vq5 vs5 vF5 vl5 vg5 => ?_; refine gL (by tm_at "l") ?_; refine And.intro (by tm_at "w") ?_
  have e21 : vq2 ≠ vq1 := by tm_at "n"
  have e31 : vq3 ≠ vq1 := by tm_at "n"
  have e32 : vq3 ≠ vq2 := by tm_at "n"
  have e41 : vq4 ≠ vq1 := by tm_at "n"
  have e42 : vq4 ≠ vq2 := by tm_at "n"
  have e43 : vq4 ≠ vq3 := by tm_at "n"
  have e51 : vq5 ≠ vq1 := by tm_at "n"
  have e52 : vq5 ≠ vq2 := by tm_at "n"
  have e53 : vq5 ≠ vq3 := by tm_at "n"
  have e54 : vq5 ≠ vq4 := by tm_at "n"
  have start : SH σ vq1 vq2 vq3 vq4 vq5 RS 0 [] [] [] [] [] vs5 := ⟨by tm_at "f", by tm_at "l", get_congr (l := []) (by tm_at "l") rfl, get_congr (l := []) (by tm_at "l") rfl, get_congr (l := []) (by tm_at "l") rfl, get_congr (l := []) (by tm_at "l") rfl, rfl, rfl, rfl, rfl, rfl⟩
  have l1 : σ.length ≤ vq1 := by tm_at "g"
  have l2 : σ.length ≤ vq2 := by tm_at "g"
  have l3 : σ.length ≤ vq3 := by tm_at "g"
  have l4 : σ.length ≤ vq4 := by tm_at "g"
  have l5 : σ.length ≤ vq5 := by tm_at "g"
  rw [List.length_map]
  clear vF1 vF2 vF3 vF4 vF5 vg1 vg2 vg3 vg4 vg5 vl1 vl2 vl3 vl4 vl5
  refine l_range RS.length (HInv σ c f a vq1 vq2 vq3 vq4 vq5 b (b + k : Nat) RS) ?_ ?_ (.mk start)
  · intro i ρ σ2 Q' vQ hi J
    cases J with
    | @mk x10 x11 x12 Sx Kx Ox Lx Fx _ I => ?_
    obtain ⟨r, hr⟩ : ∃ r, RS[i]? = some r := ⟨RS[i], List.getElem?_eq_getElem hi⟩
    have ctx := hx i r hr
    have hsq := seqAt_rows hr
    have lt1 : (RS.take i).length ≤ 1000 := Nat.le_trans (List.length_take_le' ..) hl
    have lS : Sx.length < lim := by rw [I.eS]; exact Nat.lt_of_le_of_lt (Nat.le_trans (List.length_filterMap_le _ _) lt1) (by decide)
    have lK : (intL Kx).length < lim := by rw [I.eK, List.length_map]; exact Nat.lt_of_le_of_lt (Nat.le_trans (List.length_filterMap_le _ _) lt1) (by decide)
    have lO : (Ox.map pairAV).length < lim := by rw [I.eO, List.length_map]; exact Nat.lt_of_le_of_lt (Nat.le_trans (List.length_filterMap_le _ _) lt1) (by decide)
    have lL : (intL Lx).length < lim := by rw [I.eL, List.length_map]; exact Nat.lt_of_le_of_lt (Nat.le_trans (List.length_filterMap_le _ _) lt1) (by decide)
    have lF : (natL Fx).length < lim := by rw [I.eF, List.length_map]; exact Nat.lt_of_le_of_lt (Nat.le_trans (List.length_filterMap_le _ _) lt1) (by decide)
    have F2 := I.fm
    have g1 := I.h1
    have g2 := I.h2
    have g3 := I.h3
    have g4 := I.h4
    have g5 := I.h5
    rcases seen_tags RS r with ⟨s, m⟩ | ⟨s, m⟩ | ⟨cc, t⟩ | ⟨cc⟩ | ⟨ts, cc⟩ | ⟨tg, L, v, hrv, htg, q2, q3, q4, q5, hA1, hv, hA2⟩ | ⟨tg, L, hrv, htg, q2, q3, q4, q5, hA1, hv, hA2, m1, m2, m3⟩
    · refine x_list (by tm_at "l") (by tm_at "s") ?_; refine app1 (by tm_at "l") (by tm_at "w") ?_
      refine c_law_seen (RS := RS) (by tm_at "l") hr rfl ctx ?_
      refine app1 (by tm_at "l") (by tm_at "w") ?_; refine vQ _ _ _ ?_
      refine .mk (I.next hr (Sy := [.tup [.str 47, sig m]]) (Ky := [s]) (Oy := []) (Ly := []) (Fy := []) (by tm_at "f") (by tm_at "l") (by tm_at "l") (app0 (by tm_at "l")) (app0 (by tm_at "l")) (app0 (by tm_at "l")) rfl rfl rfl rfl rfl)
    · refine x_list (by tm_at "l") (by tm_at "s") ?_; refine app1 (by tm_at "l") (by tm_at "w") ?_; refine vQ _ _ _ ?_
      refine .mk (I.next hr (Sy := []) (Ky := [s]) (Oy := []) (Ly := []) (Fy := []) (by tm_at "f") (app0 (by tm_at "l")) (by tm_at "l") (app0 (by tm_at "l")) (app0 (by tm_at "l")) (app0 (by tm_at "l")) rfl rfl rfl rfl rfl)
    · obtain ⟨j, rfl, r', hr'⟩ := ctx.enter _ _ rfl
      obtain ⟨L', hrv', zz⟩ := av_tag r'
      have hsq2 : seqAt (RS.map Row.av) ((j : Int) + 1 - 1) = some (.tup (.str (tagOf r') :: L')) := by
        rw [Int.add_sub_cancel, ← hrv']
        exact seqAt_rows hr'
      refine x_list (by tm_at "l") (by tm_at "s") ?_; refine x_list (by tm_at "l") (by tm_at "s") ?_; refine app1 (by tm_at "l") (by tm_at "w") ?_; refine vQ _ _ _ ?_
      refine .mk (I.next hr (Sy := []) (Ky := []) (Oy := [(cc, tagOf r')]) (Ly := []) (Fy := []) (by tm_at "f") (app0 (by tm_at "l")) (app0 (by tm_at "l")) (by tm_at "l") (app0 (by tm_at "l")) (app0 (by tm_at "l")) rfl rfl (fmS (show (RS[((j : Int) + 1 - 1).toNat]?).map _ = _ by rw [Int.add_sub_cancel, Int.toNat_natCast, hr']; rfl)) rfl rfl)
    · refine x_list (by tm_at "l") (by tm_at "s") ?_; refine app1 (by tm_at "l") (by tm_at "w") ?_; refine vQ _ _ _ ?_
      refine .mk (I.next hr (Sy := []) (Ky := []) (Oy := []) (Ly := [cc]) (Fy := []) (by tm_at "f") (app0 (by tm_at "l")) (app0 (by tm_at "l")) (app0 (by tm_at "l")) (by tm_at "l") (app0 (by tm_at "l")) rfl rfl rfl rfl rfl)
    · obtain ⟨hj, hsort, hts, hne, hgo⟩ := ctx.fork _ _ rfl
      have hsq1 : seqAt (RS.map Row.av) ((i : Int) + 1) = some (.tup [.str 52]) := by
        have := seqAt_rows hj
        exact this
      obtain ⟨t0, rest, rfl⟩ : ∃ t0 rest, ts = t0 :: rest := by
        cases ts with
        | nil => exact absurd rfl hne
        | cons t0 rest => exact ⟨t0, rest, rfl⟩
      refine x_list (by tm_at "l") (by tm_at "s") ?_; refine app1 (by tm_at "l") (by tm_at "w") ?_; refine x_list (by tm_at "l") (by tm_at "s") ?_
      refine e_self (a := .tup [.str 52]) rfl ?_
      refine newL fun vq6 vs6 vF6 vl6 vg6 => ?_
      refine q_sortedT (intsOf_intL (t0 :: rest)) (by exact (linl [_] [.le (.v 0) (.n 3)] (.v 0) (.n 64) (.refl true) hts)) (newL fun q σ3 hF3 hl3 hg3 => ?_)
      rw [hsort] at hg3
      refine e_cells (x := intL (t0 :: rest)) (y := intL (t0 :: rest)) (by tm_at "l") (by tm_at "l") (plain_ints (t0 :: rest)) (plain_ints (t0 :: rest)) ?_
      refine nk_y (decide_eq_true rfl) ?_
      skip
      refine q_sliceT ⟨by decide, Int.ofNat_le.mpr (Nat.succ_le_succ (Nat.zero_le _))⟩ ?_
      skip
      have k1 : σ3[vq1]? = some (.list Sx) := by tm_at "l"
      have k2 : σ3[vq2]? = some (.list (intL Kx)) := by tm_at "l"
      have k3 : σ3[vq3]? = some (.list (Ox.map pairAV)) := by tm_at "l"
      have k4 : σ3[vq4]? = some (.list (intL Lx)) := by tm_at "l"
      have k5 : σ3[vq5]? = some (.list (natL Fx ++ natL [(t0 :: rest).length])) := get_congr (by tm_at "l") (congrArg (fun n => natL Fx ++ [AV.int n]) (by rw [List.length_map]))
      have kc : σ3[c]? = some (.list (RS.map Row.av)) := by tm_at "l"
      have F3' : Fm [] σ σ3 := by tm_at "f"
      refine l_inv (fun l ρ τ => (∀ v ∈ l, v ∈ rest.map AV.int) ∧ (τ = σ3) ∧ ∃ x12, ρ = [some (.cell c), some (.int b), some (.int (b + k : Nat)), some (.cell f), some (.cell a), some (.cell vq1), some (.cell vq2), some (.cell vq3), some (.cell vq4), some (.cell vq5), some (.int i), some (Row.fork (t0 :: rest) cc).av, x12, none, none, none, none, none]) ?_ ?_ ?_ _ _ _ ⟨fun v hv => by simpa using hv, rfl, _, rfl⟩
      · intro l ρ σ P _ h
        exact h
      · intro v l ρ τ Q'' vQ ⟨hm, hτ, x12, hρ⟩
        subst hτ
        subst hρ
        obtain ⟨t, ht, rfl⟩ := List.mem_map.mp (hm v List.mem_cons_self)
        obtain ⟨j, rfl, hj2⟩ := hgo t ht
        have hsq2 : seqAt (RS.map Row.av) ((j : Int) + 1 - 1) = some (.tup [.str 15]) := by
          rw [Int.add_sub_cancel]
          exact seqAt_rows hj2
        refine x_list (by tm_at "l") (by tm_at "s") ?_
        refine e_self (a := .tup [.str 15]) rfl ?_
        refine vQ _ _ _ ?_
        exact ⟨fun v hv => hm v (List.mem_cons_of_mem _ hv), rfl, _, rfl⟩
      · intro ρ τ ⟨_, hτ, x12, hρ⟩
        subst hτ
        subst hρ
        refine vQ _ _ _ ?_
        refine .mk (I.next hr (Sy := []) (Ky := []) (Oy := []) (Ly := []) (Fy := [(t0 :: rest).length]) (by tm_at "f") (app0 (by tm_at "l")) (app0 (by tm_at "l")) (app0 (by tm_at "l")) (app0 (by tm_at "l")) (by tm_at "l") rfl rfl rfl rfl rfl)
    · rw [hrv] at hsq
      refine x_list (by tm_at "l") (by tm_at "s") ?_
      refine if_y (ble69 htg) (memK_of rfl hA1 ?_)
      skip
      refine if_y (ble69 htg) (memK_of rfl hA2 ?_)
      skip
      refine c_law_seen (RS := RS) (by tm_at "l") hr hv ctx ?_
      refine app1 (by tm_at "l") (by tm_at "w") ?_; refine vQ _ _ _ ?_
      refine .mk (I.next hr (Sy := [v]) (Ky := []) (Oy := []) (Ly := []) (Fy := []) (by tm_at "f") (by tm_at "l") (app0 (by tm_at "l")) (app0 (by tm_at "l")) (app0 (by tm_at "l")) (app0 (by tm_at "l")) (fmS hv) (fmN q2) (fmN q3) (fmN q4) (fmN q5))
    · rw [hrv] at hsq
      refine x_list (by tm_at "l") (by tm_at "s") ?_
      refine if_y (ble69 htg) (memK_of rfl hA1 ?_)
      skip
      refine if_y (ble69 htg) (memK_of rfl hA2 ?_)
      skip
      refine if_y (ble69 htg) ?_
      refine if_y (t := Nat.ble 21 69) rfl ?_
      refine if_z (beqF m1) ?_
      skip
      refine if_y (ble69 htg) ?_
      refine if_y (t := Nat.ble 22 69) rfl ?_
      refine if_z (beqF m2) ?_
      skip
      refine if_y (ble69 htg) ?_
      refine if_y (t := Nat.ble 18 69) rfl ?_
      refine if_z (beqF m3) ?_
      refine vQ _ _ _ ?_
      refine .mk (I.next hr (Sy := []) (Ky := []) (Oy := []) (Ly := []) (Fy := []) (by tm_at "f") (app0 (by tm_at "l")) (app0 (by tm_at "l")) (app0 (by tm_at "l")) (app0 (by tm_at "l")) (app0 (by tm_at "l")) (fmN hv) (fmN q2) (fmN q3) (fmN q4) (fmN q5))
  · intro ρ σ2 J
    cases J with
    | @mk x10 x11 x12 Sx Kx Ox Lx Fx _ I => ?_
    have F2 := I.fm
    have g1 : σ2[vq1]? = some (.list ACTS) := get_congr I.h1 (by rw [I.eS, List.take_length, hS])
    have g2 := get_congr I.h2 (show _ = intL ((List.range k).map fun (j : Nat) => ((b : Int) + (j : Int))) by rw [I.eK, List.take_length, hK])
    have g3 := get_congr I.h3 (show _ = op.map pairAV by rw [I.eO, List.take_length, hO])
    have g4 := get_congr I.h4 (show _ = intL (RS.filterMap Row.left?) by rw [I.eL, List.take_length])
    have g5 := get_congr I.h5 (show _ = natL fk by rw [I.eF, List.take_length, hF])
    have i1 := intsOf_intL ((List.range k).map fun (j : Nat) => ((b : Int) + (j : Int)))
    have i2 := intsOf_intL (RS.filterMap Row.left?)
    have i3 := intsOf_intL (op.map (·.1))
    have n1 : ((List.range k).map fun (j : Nat) => ((b : Int) + (j : Int))).length < 64 := by simpa using hk
    have n3 : (op.map (·.1)).length < 64 := by simpa using hop
    skip
    refine e_cells (x := ACTS) (y := ACTS) (by tm_at "l") (by tm_at "l") hpa hpa ?_
    refine nk_y (decide_eq_true rfl) ?_
    refine q_sortedL (by tm_at "l") (by tm_at "s") (by first | assumption | decide) ?_; refine newL fun vq6 vs6 vF6 vl6 vg6 => ?_; refine And.intro (by omega) ?_; refine newL fun vq7 vs7 vF7 vl7 vg7 => ?_
    refine e_cells (by tm_at "l") (by tm_at "l") (plain_ints _) (plain_ints' _ _) ?_
    refine nk_y (decide_eq_true (by rw [sort_range, rangeI_eq])) ?_
    refine gL (by tm_at "l") ?_
    refine e_cells (x := op.map pairAV) (y := op.map pairAV) (by tm_at "l") (by tm_at "l") hop2 hop2 ?_
    refine if_y (decide_eq_true rfl) ?_
    refine gL (by tm_at "l") ?_
    refine e_cells (x := natL fk) (y := natL fk) (by tm_at "l") (by tm_at "l") (plain_nats fk) (plain_nats fk) ?_
    refine if_y (decide_eq_true rfl) ?_
    refine q_sortedL (by tm_at "l") (by tm_at "s") (by first | assumption | decide) ?_; refine newL fun vq8 vs8 vF8 vl8 vg8 => ?_; refine gL (by tm_at "l") ?_
    refine loop_pairs (fun x => [none, x]) ?_ ?_ op [] none _ (by simp [lim]; exact (linl [_] [.lt (.v 0) (.n 64)] (.v 0) (.n 1048576) (.refl true) hop)) ?_
    · intro P h
      exact ⟨by tm_at "l", h⟩
    · intro p x r acc QL hl h
      refine And.intro (by tm_at "l") ?_; refine And.intro (by tm_at "w") ?_
      exact h
    · refine newL fun q7 σ7 hF7 hl7 hg => ?_
      have hg7 := get_congr hg (show _ = intL (op.map (·.1)) by simp)
      clear hg
      refine q_sortedL (by tm_at "l") (by tm_at "s") (by first | assumption | decide) ?_; refine newL fun vq9 vs9 vF9 vl9 vg9 => ?_
      refine e_cells (by tm_at "l") (by tm_at "l") (plain_ints _) (plain_ints _) ?_
      exact (congrArg (fun b => Q (.bool b) _) (decide_eq_true (by rw [hL]))).mpr (h _)
end
-- P28
section
set_option maxHeartbeats 400000
open PySem
noncomputable def AllAt {α : Type} (P : Nat → α → Prop) : Nat → List α → Prop
  | _, [] => True
  | p, x :: r => P p x ∧ AllAt P (p + 1) r
theorem AllAt_append {α : Type} {P : Nat → α → Prop} : ∀ {p : Nat} {a b : List α}, AllAt P p (a ++ b) ↔ AllAt P p a ∧ AllAt P (p + a.length) b
  | p, [], b => by simp [AllAt]
  | p, x :: a, b => by
    have e : p + (a.length + 1) = p + 1 + a.length := by exact (Nat.le_antisymm (lin [_, _] [] (.a (.v 0) (.a (.v 1) (.n 1))) (.a (.a (.v 0) (.n 1)) (.v 1)) (.refl true) ) (lin [_, _] [] (.a (.a (.v 0) (.n 1)) (.v 1)) (.a (.v 0) (.a (.v 1) (.n 1))) (.refl true) ))
    simp only [List.cons_append, AllAt, AllAt_append (p := p + 1), List.length_cons, and_assoc, e]
theorem AllAt_get {α : Type} {P : Nat → α → Prop} : ∀ {l : List α} {p i : Nat} {x : α}, AllAt P p l → l[i]? = some x → P (p + i) x
  | [], _, _, _, _, h => by simp at h
  | y :: l, p, 0, x, h, e => by
    simp at e
    exact e ▸ h.1
  | y :: l, p, i + 1, x, h, e => by
    have := AllAt_get (i := i) h.2 (by simpa using e)
    have e2 : p + (i + 1) = p + 1 + i := by exact (Nat.le_antisymm (lin [_, _] [] (.a (.v 0) (.a (.v 1) (.n 1))) (.a (.a (.v 0) (.n 1)) (.v 1)) (.refl true) ) (lin [_, _] [] (.a (.a (.v 0) (.n 1)) (.v 1)) (.a (.v 0) (.a (.v 1) (.n 1))) (.refl true) ))
    rw [e2]
    exact this
theorem AllAt_of {α : Type} {P : Nat → α → Prop} : ∀ {l : List α} {p : Nat}, (∀ i x, l[i]? = some x → P (p + i) x) → AllAt P p l
  | [], _, _ => trivial
  | y :: l, p, h => ⟨h 0 y rfl, AllAt_of fun i x e => by
      have := h (i + 1) x (by simpa using e)
      have e2 : p + (i + 1) = p + 1 + i := by exact (Nat.le_antisymm (lin [_, _] [] (.a (.v 0) (.a (.v 1) (.n 1))) (.a (.a (.v 0) (.n 1)) (.v 1)) (.refl true) ) (lin [_, _] [] (.a (.a (.v 0) (.n 1)) (.v 1)) (.a (.v 0) (.a (.v 1) (.n 1))) (.refl true) ))
      rw [e2] at this
      exact this⟩
section
variable (RS : List Row) (Λ : Nat → List Int) (N : Nat)
noncomputable def IsRow (a : Nat) (r : Row) : Prop := RS[a]? = some r
noncomputable def IsLab (a : Nat) (y : List Int) : Prop := Λ a = y
noncomputable def GoodR (a : Nat) (r : Row) : Prop := Flow Λ N a r ∧ Ctx RS a r
structure SegOk (h : Nat) (R : Nat → Nat → List Row) (len : Nat) (L : List Int → List (List Int)) : Prop where
  rl : ∀ p k, (R p k).length = len
  ll : ∀ x, (L x).length = len
  hd : ∀ x, ∃ t, L x ++ [x] = x :: t
  ok : ∀ p k x, x.length + h ≤ 900 → AllAt (IsRow RS) p (R p k) → AllAt (IsLab Λ) p (L x ++ [x]) → p + len < N → AllAt (GoodR RS Λ N) p (R p k)
end
section
variable {RS : List Row} {Λ : Nat → List Int} {N a : Nat}
theorem good_simple {r : Row} (hf : r.falls = true) (ht : r.targets = []) (hb : ∀ x, r.Beh x x) (hc : ∀ i, Ctx RS i r) (hs : r.isStop = false) {x : List Int} (h1 : Λ a = x) (h2 : Λ (a + 1) = x) (hN : a + 1 < N) (hl : x.length ≤ 900) : GoodR RS Λ N a r :=
  ⟨⟨⟨x, by rw [h1]; exact hb x, fun zz => ⟨hN, h2⟩⟩, fun h => (by rw [hs] at h; cases h), fun t h => (by rw [ht] at h; cases h), by rw [ht]; decide, by rw [h1]; exact (lin [_] [.le (.v 0) (.n 900)] (.v 0) (.n 1000) (.refl true) hl)⟩, hc a⟩
theorem ctx_triv {r : Row} (h : ∀ k s, r ≠ .setL k s) (h2 : ∀ c t, r ≠ .enter c t) (h3 : ∀ ts c, r ≠ .fork ts c) (i : Nat) : Ctx RS i r := ⟨fun k s e => absurd e (h k s), fun c t e => absurd e (h2 c t), fun ts c e => absurd e (h3 ts c)⟩
theorem good_one {r : Row} {j : Nat} (hf : r.falls = true) (ht : r.targets = [(j : Int)]) (hk : r.isFork = false) (hb : ∀ x, r.Beh x x) (hc : Ctx RS a r) (hs : r.isStop = false) {x : List Int} (h1 : Λ a = x) (h2 : Λ (a + 1) = x) (h3 : Λ j = x) (hN : a + 1 < N) (hj : j < N) (hl : x.length ≤ 900) : GoodR RS Λ N a r :=
  ⟨⟨⟨x, by rw [h1]; exact hb x, fun zz => ⟨hN, h2⟩⟩, fun h => (by rw [hs] at h; cases h), fun t h => by
      rw [ht] at h
      have h := List.mem_singleton.mp h
      exact ⟨j, h, hj, by rw [hk, h1, h3]; rfl⟩, by rw [ht]; exact (by decide : 1 ≤ 3), by rw [h1]; exact (lin [_] [.le (.v 0) (.n 900)] (.v 0) (.n 1000) (.refl true) hl)⟩, hc⟩
theorem good_unless {e : Int} {j : Nat} {x : List Int} (h1 : Λ a = x) (h2 : Λ (a + 1) = x) (h3 : Λ j = x) (hN : a + 1 < N) (hj : j < N) (hl : x.length ≤ 900) : GoodR RS Λ N a (.unless e (j : Nat)) :=
  good_one rfl rfl rfl (fun zz => rfl) (ctx_triv (fun zz zz h => (by cases h)) (fun zz zz h => (by cases h)) (fun zz zz h => (by cases h)) a) rfl h1 h2 h3 hN hj hl
theorem good_again {s : Int} {j : Nat} {x : List Int} (h1 : Λ a = x) (h2 : Λ (a + 1) = x) (h3 : Λ j = x) (hN : a + 1 < N) (hj : j < N) (hl : x.length ≤ 900) : GoodR RS Λ N a (.again s (j : Nat)) :=
  good_one rfl rfl rfl (fun zz => rfl) (ctx_triv (fun zz zz h => (by cases h)) (fun zz zz h => (by cases h)) (fun zz zz h => (by cases h)) a) rfl h1 h2 h3 hN hj hl
theorem good_mat {v : Option Int} {k : Nat} {lab : Int} {j : Nat} {x : List Int} (h1 : Λ a = x) (h2 : Λ (a + 1) = x) (h3 : Λ j = x) (hN : a + 1 < N) (hj : j < N) (hl : x.length ≤ 900) : GoodR RS Λ N a (matR v k lab j) := by
  cases v
  · exact good_one rfl rfl rfl (fun zz => rfl) (ctx_triv (fun zz zz h => (by cases h)) (fun zz zz h => (by cases h)) (fun zz zz h => (by cases h)) a) rfl h1 h2 h3 hN hj hl
  · exact good_one rfl rfl rfl (fun zz => rfl) (ctx_triv (fun zz zz h => (by cases h)) (fun zz zz h => (by cases h)) (fun zz zz h => (by cases h)) a) rfl h1 h2 h3 hN hj hl
theorem good_jump {j : Nat} {x : List Int} (h1 : Λ a = x) (h3 : Λ j = x) (hj : j < N) (hl : x.length ≤ 900) : GoodR RS Λ N a (.jump (j : Nat)) :=
  ⟨⟨⟨x, by rw [h1]; rfl, fun h => (by cases h)⟩, fun h => (by cases h), fun t h => by
      have h := List.mem_singleton.mp h
      exact ⟨j, h, hj, by rw [h1, h3]; rfl⟩, (by decide : 1 ≤ 3), by rw [h1]; exact (lin [_] [.le (.v 0) (.n 900)] (.v 0) (.n 1000) (.refl true) hl)⟩, ctx_triv (fun zz zz h => (by cases h)) (fun zz zz h => (by cases h)) (fun zz zz h => (by cases h)) a⟩
theorem good_fin (h1 : Λ a = []) : GoodR RS Λ N a .fin :=
  ⟨⟨⟨[], by rw [h1]; rfl, fun h => (by cases h)⟩, fun zz => h1, fun t h => (by cases h), Nat.zero_le _, by rw [h1]; decide⟩, ctx_triv (fun zz zz h => (by cases h)) (fun zz zz h => (by cases h)) (fun zz zz h => (by cases h)) a⟩
theorem good_ret (h1 : Λ a = []) : GoodR RS Λ N a .ret :=
  ⟨⟨⟨[], by rw [h1]; rfl, fun h => (by cases h)⟩, fun zz => h1, fun t h => (by cases h), Nat.zero_le _, by rw [h1]; decide⟩, ctx_triv (fun zz zz h => (by cases h)) (fun zz zz h => (by cases h)) (fun zz zz h => (by cases h)) a⟩
theorem good_enter {c : Int} {j : Nat} {x : List Int} (h1 : Λ a = x) (h2 : Λ (a + 1) = x ++ [c]) (h3 : Λ (j + 1) = x) (hN : a + 1 < N) (hj : j + 1 < N) (hr : ∃ r', RS[j]? = some r') (hl : x.length ≤ 900) : GoodR RS Λ N a (.enter c ((j + 1 : Nat) : Int)) :=
  ⟨⟨⟨x ++ [c], by rw [h1]; rfl, fun zz => ⟨hN, h2⟩⟩, fun h => (by cases h), fun t h => by
      have h := List.mem_singleton.mp h
      exact ⟨j + 1, h, hj, by rw [h1, h3]; rfl⟩, (by decide : 1 ≤ 3), by rw [h1]; exact (lin [_] [.le (.v 0) (.n 900)] (.v 0) (.n 1000) (.refl true) hl)⟩, ⟨fun k s e => (by cases e), fun c t e => by
        cases e
        exact ⟨j, by simp, hr⟩, fun ts c e => (by cases e)⟩⟩
theorem good_leave {c : Int} {x : List Int} (h1 : Λ a = x ++ [c]) (h2 : Λ (a + 1) = x) (hN : a + 1 < N) (hl : x.length ≤ 900) : GoodR RS Λ N a (.leave c) :=
  ⟨⟨⟨x, by rw [h1]; rfl, fun zz => ⟨hN, h2⟩⟩, fun h => (by cases h), fun t h => (by cases h), Nat.zero_le _, by rw [h1]; simp; exact (lin [_] [.le (.v 0) (.n 900)] (.v 0) (.n 999) (.refl true) hl)⟩, ctx_triv (fun zz zz h => (by cases h)) (fun zz zz h => (by cases h)) (fun zz zz h => (by cases h)) a⟩
theorem good_fork {ts : List Int} {c : Int} {x : List Int} (h1 : Λ a = x) (h2 : Λ (a + 1) = x) (hN : a + 1 < N) (hts : ∀ t ∈ ts, ∃ j : Nat, t = j ∧ j < N ∧ Λ j = []) (hj : RS[a + 1]? = some .join) (hs : sortI ts = ts) (hn : ts.length ≤ 3) (hne : ts ≠ []) (hg : ∀ t ∈ ts.tail, ∃ j : Nat, t = j + 1 ∧ RS[j]? = some .fin) (hl : x.length ≤ 900) : GoodR RS Λ N a (.fork ts c) :=
  ⟨⟨⟨x, by rw [h1]; rfl, fun zz => ⟨hN, h2⟩⟩, fun h => (by cases h), hts, hn, by rw [h1]; exact (lin [_] [.le (.v 0) (.n 900)] (.v 0) (.n 1000) (.refl true) hl)⟩, ⟨fun k s e => (by cases e), fun c t e => (by cases e), fun ts' c' e => by
      cases e
      exact ⟨hj, hs, hn, hne, hg⟩⟩⟩
end
end
-- P29
section
set_option maxHeartbeats 400000
open PySem
theorem at_eq {α : Type} {P : Nat → α → Prop} {l : List α} {p q : Nat} (h : AllAt P p l) (e : p = q) : AllAt P q l := e ▸ h
theorem lab_eq {Λ : Nat → List Int} {p q : Nat} {x : List Int} (h : IsLab Λ p x) (e : p = q) : Λ q = x := e ▸ h
section
variable {RS : List Row} {Λ : Nat → List Int} {N : Nat}
theorem SegOk.ends {h len : Nat} {R : Nat → Nat → List Row} {L : List Int → List (List Int)} (A : SegOk RS Λ N h R len L) {p : Nat} {x : List Int} (hL : AllAt (IsLab Λ) p (L x ++ [x])) : Λ p = x ∧ Λ (p + len) = x := by
  obtain ⟨t, ht⟩ := A.hd x
  refine ⟨?_, ?_⟩
  · rw [ht] at hL
    exact hL.1
  · rw [AllAt_append, A.ll] at hL
    exact hL.2.1
theorem SegOk.mono {h h' len : Nat} {R : Nat → Nat → List Row} {L : List Int → List (List Int)} (A : SegOk RS Λ N h R len L) (e : h ≤ h') : SegOk RS Λ N h' R len L :=
  ⟨A.rl, A.ll, A.hd, fun p k x hx => A.ok p k x (by exact (lin [_, _, _] [.le (.a (.v 0) (.v 1)) (.n 900), .le (.v 2) (.v 1)] (.a (.v 0) (.v 2)) (.n 900) (.refl true) hx e))⟩
theorem seg_none : SegOk RS Λ N 0 (fun zz zz => []) 0 (fun zz => []) := ⟨fun zz zz => rfl, fun zz => rfl, fun x => ⟨[], rfl⟩, fun zz zz zz zz zz zz zz => trivial⟩
theorem seg_one {r : Nat → Nat → Row} (hf : ∀ p k, (r p k).falls = true) (ht : ∀ p k, (r p k).targets = []) (hb : ∀ p k x, (r p k).Beh x x) (hc : ∀ p k i, Ctx RS i (r p k)) (hs : ∀ p k, (r p k).isStop = false) : SegOk RS Λ N 0 (fun p k => [r p k]) 1 (fun x => [x]) :=
  ⟨fun zz zz => rfl, fun zz => rfl, fun x => ⟨[x], rfl⟩, fun p k x hx zz hL hN => ⟨good_simple (hf p k) (ht p k) (hb p k) (hc p k) (hs p k) hL.1 hL.2.1 hN (by exact (lin [_] [.le (.a (.v 0) (.n 0)) (.n 900)] (.v 0) (.n 900) (.refl true) hx)), trivial⟩⟩
theorem SegOk.seqK {h h1 h2 l1 l2 n1 : Nat} {R1 : Nat → Nat → List Row} {R2 : Nat → Nat → Nat → List Row} {L1 L2 : List Int → List (List Int)} (A : SegOk RS Λ N h1 R1 l1 L1) (B : ∀ k0, SegOk RS Λ N h2 (R2 k0) l2 L2) (e1 : h1 ≤ h) (e2 : h2 ≤ h) :
    SegOk RS Λ N h (fun p k => R1 p k ++ R2 k (p + l1) (k + n1)) (l1 + l2) (fun x => L1 x ++ L2 x) := by
  refine ⟨fun p k => by simp [A.rl, (B k).rl], fun x => by simp [A.ll, (B 0).ll], fun x => ?_, fun p k x hx hR hL hN => ?_⟩
  · obtain ⟨t1, h1⟩ := A.hd x
    obtain ⟨t2, h2⟩ := (B 0).hd x
    rw [List.append_assoc, h2]
    cases hl : L1 x with
    | nil => exact ⟨t2, rfl⟩
    | cons y r =>
      rw [hl] at h1
      simp at h1
      exact ⟨r ++ x :: t2, by simp [h1.1]⟩
  · rw [AllAt_append, A.rl] at hR ⊢
    rw [List.append_assoc, AllAt_append, A.ll] at hL
    have hm := ((B k).ends hL.2).1
    refine ⟨A.ok p k x (by exact (lin [_, _, _] [.le (.a (.v 0) (.v 1)) (.n 900), .le (.v 2) (.v 1)] (.a (.v 0) (.v 2)) (.n 900) (.refl true) hx e1)) hR.1 ?_ (by exact (linl [_, _, _, _] [.lt (.a (.v 0) (.a (.v 1) (.v 2))) (.v 3)] (.a (.v 0) (.v 1)) (.v 3) (.refl true) hN)), (B k).ok _ _ x (by exact (lin [_, _, _] [.le (.a (.v 0) (.v 1)) (.n 900), .le (.v 2) (.v 1)] (.a (.v 0) (.v 2)) (.n 900) (.refl true) hx e2)) hR.2 hL.2 (by exact (linl [_, _, _, _] [.lt (.a (.v 0) (.a (.v 1) (.v 2))) (.v 3)] (.a (.a (.v 0) (.v 1)) (.v 2)) (.v 3) (.refl true) hN))⟩
    rw [AllAt_append, A.ll]
    exact ⟨hL.1, hm, trivial⟩
theorem SegOk.seq {h h1 h2 l1 l2 n1 : Nat} {R1 : Nat → Nat → List Row} {R2 : Nat → Nat → List Row} {L1 L2 : List Int → List (List Int)} (A : SegOk RS Λ N h1 R1 l1 L1) (B : SegOk RS Λ N h2 R2 l2 L2) (e1 : h1 ≤ h) (e2 : h2 ≤ h) :
    SegOk RS Λ N h (fun p k => R1 p k ++ R2 (p + l1) (k + n1)) (l1 + l2) (fun x => L1 x ++ L2 x) := A.seqK (n1 := n1) (R2 := fun zz => R2) (fun zz => B) e1 e2
theorem seg_if1 {h la : Nat} {Ra : Nat → Nat → List Row} {La : List Int → List (List Int)} (e : Int) (A : SegOk RS Λ N h Ra la La) : SegOk RS Λ N h (fun p k => .unless e (p + la + 1 : Nat) :: Ra (p + 1) k) (la + 1) (fun x => x :: La x) := by
  refine ⟨fun p k => by simp [A.rl], fun x => by simp [A.ll], fun x => ⟨La x ++ [x], rfl⟩, fun p k x hx hR hL hN => ?_⟩
  obtain ⟨zz, hRa⟩ := hR
  obtain ⟨h0, hLa⟩ := hL
  obtain ⟨h1, h2⟩ := A.ends hLa
  exact ⟨good_unless h0 h1 (lab_eq h2 (by exact (Nat.le_antisymm (lin [_, _] [] (.a (.a (.v 0) (.n 1)) (.v 1)) (.a (.a (.v 0) (.v 1)) (.n 1)) (.refl true) ) (lin [_, _] [] (.a (.a (.v 0) (.v 1)) (.n 1)) (.a (.a (.v 0) (.n 1)) (.v 1)) (.refl true) )))) (by exact (linl [_, _, _] [.lt (.a (.v 0) (.a (.v 1) (.n 1))) (.v 2)] (.a (.v 0) (.n 1)) (.v 2) (.refl true) hN)) (by exact (linl [_, _, _] [.lt (.a (.v 0) (.a (.v 1) (.n 1))) (.v 2)] (.a (.a (.v 0) (.v 1)) (.n 1)) (.v 2) (.refl true) hN)) (by exact (lin [_, _] [.le (.a (.v 0) (.v 1)) (.n 900)] (.v 0) (.n 900) (.refl true) hx)), A.ok _ _ x hx hRa hLa (by exact (linl [_, _, _] [.lt (.a (.v 0) (.a (.v 1) (.n 1))) (.v 2)] (.a (.a (.v 0) (.n 1)) (.v 1)) (.v 2) (.refl true) hN))⟩
theorem seg_if2 {h la lb na : Nat} {Ra Rb : Nat → Nat → List Row} {La Lb : List Int → List (List Int)} (e : Int) (A : SegOk RS Λ N h Ra la La) (B : SegOk RS Λ N h Rb lb Lb) :
    SegOk RS Λ N h (fun p k => .unless e (p + la + 2 : Nat) :: (Ra (p + 1) k ++ .jump (p + la + lb + 2 : Nat) :: Rb (p + la + 2) (k + na))) (la + lb + 2) (fun x => x :: (La x ++ x :: Lb x)) := by
  refine ⟨fun p k => by simp [A.rl, B.rl]; exact (Nat.le_antisymm (lin [_, _] [] (.a (.v 0) (.a (.v 1) (.n 1))) (.a (.a (.v 0) (.v 1)) (.n 1)) (.refl true) ) (lin [_, _] [] (.a (.a (.v 0) (.v 1)) (.n 1)) (.a (.v 0) (.a (.v 1) (.n 1))) (.refl true) )), fun x => by simp [A.ll, B.ll]; exact (Nat.le_antisymm (lin [_, _] [] (.a (.v 0) (.a (.v 1) (.n 1))) (.a (.a (.v 0) (.v 1)) (.n 1)) (.refl true) ) (lin [_, _] [] (.a (.a (.v 0) (.v 1)) (.n 1)) (.a (.v 0) (.a (.v 1) (.n 1))) (.refl true) )), fun x => ⟨_, rfl⟩, fun p k x hx hR hL hN => ?_⟩
  simp only [List.cons_append, List.nil_append, List.append_assoc, AllAt, AllAt_append, A.rl, A.ll] at hR hL ⊢
  obtain ⟨zz, hRa, zz, hRb⟩ := hR
  obtain ⟨h0, hLa, hJ, hLb⟩ := hL
  have hLb' : AllAt (IsLab Λ) (p + la + 2) (Lb x ++ [x]) := by
    rw [AllAt_append, B.ll]
    exact ⟨at_eq hLb.1 (by exact (Nat.le_antisymm (lin [_, _] [] (.a (.a (.a (.v 0) (.n 1)) (.v 1)) (.n 1)) (.a (.a (.v 0) (.v 1)) (.n 2)) (.refl true) ) (lin [_, _] [] (.a (.a (.v 0) (.v 1)) (.n 2)) (.a (.a (.a (.v 0) (.n 1)) (.v 1)) (.n 1)) (.refl true) ))), lab_eq hLb.2.1 (by rw [B.ll]; exact (Nat.le_antisymm (lin [_, _, _] [] (.a (.a (.a (.a (.v 0) (.n 1)) (.v 1)) (.n 1)) (.v 2)) (.a (.a (.a (.v 0) (.v 1)) (.n 2)) (.v 2)) (.refl true) ) (lin [_, _, _] [] (.a (.a (.a (.v 0) (.v 1)) (.n 2)) (.v 2)) (.a (.a (.a (.a (.v 0) (.n 1)) (.v 1)) (.n 1)) (.v 2)) (.refl true) ))), trivial⟩
  have hLa' : AllAt (IsLab Λ) (p + 1) (La x ++ [x]) := by
    rw [AllAt_append, A.ll]
    exact ⟨hLa, hJ, trivial⟩
  obtain ⟨a1, a2⟩ := A.ends hLa'
  obtain ⟨b1, b2⟩ := B.ends hLb'
  exact ⟨good_unless h0 a1 b1 (by exact (linl [_, _, _, _] [.lt (.a (.v 0) (.a (.a (.v 1) (.v 2)) (.n 2))) (.v 3)] (.a (.v 0) (.n 1)) (.v 3) (.refl true) hN)) (by exact (linl [_, _, _, _] [.lt (.a (.v 0) (.a (.a (.v 1) (.v 2)) (.n 2))) (.v 3)] (.a (.a (.v 0) (.v 1)) (.n 2)) (.v 3) (.refl true) hN)) (by exact (lin [_, _] [.le (.a (.v 0) (.v 1)) (.n 900)] (.v 0) (.n 900) (.refl true) hx)), A.ok _ _ x hx hRa hLa' (by exact (linl [_, _, _, _] [.lt (.a (.v 0) (.a (.a (.v 1) (.v 2)) (.n 2))) (.v 3)] (.a (.a (.v 0) (.n 1)) (.v 1)) (.v 3) (.refl true) hN)), good_jump hJ (lab_eq b2 (by exact (Nat.le_antisymm (lin [_, _, _] [] (.a (.a (.a (.v 0) (.v 1)) (.n 2)) (.v 2)) (.a (.a (.a (.v 0) (.v 1)) (.v 2)) (.n 2)) (.refl true) ) (lin [_, _, _] [] (.a (.a (.a (.v 0) (.v 1)) (.v 2)) (.n 2)) (.a (.a (.a (.v 0) (.v 1)) (.n 2)) (.v 2)) (.refl true) )))) (by exact (linl [_, _, _, _] [.lt (.a (.v 0) (.a (.a (.v 1) (.v 2)) (.n 2))) (.v 3)] (.a (.a (.a (.v 0) (.v 1)) (.v 2)) (.n 2)) (.v 3) (.refl true) hN)) (by exact (lin [_, _] [.le (.a (.v 0) (.v 1)) (.n 900)] (.v 0) (.n 900) (.refl true) hx)), at_eq (B.ok _ _ x hx (at_eq hRb (by exact (Nat.le_antisymm (lin [_, _] [] (.a (.a (.a (.v 0) (.n 1)) (.v 1)) (.n 1)) (.a (.a (.v 0) (.v 1)) (.n 2)) (.refl true) ) (lin [_, _] [] (.a (.a (.v 0) (.v 1)) (.n 2)) (.a (.a (.a (.v 0) (.n 1)) (.v 1)) (.n 1)) (.refl true) )))) hLb' (by exact (linl [_, _, _, _] [.lt (.a (.v 0) (.a (.a (.v 1) (.v 2)) (.n 2))) (.v 3)] (.a (.a (.a (.v 0) (.v 1)) (.n 2)) (.v 2)) (.v 3) (.refl true) hN))) (by exact (Nat.le_antisymm (lin [_, _] [] (.a (.a (.v 0) (.v 1)) (.n 2)) (.a (.a (.a (.v 0) (.n 1)) (.v 1)) (.n 1)) (.refl true) ) (lin [_, _] [] (.a (.a (.a (.v 0) (.n 1)) (.v 1)) (.n 1)) (.a (.a (.v 0) (.v 1)) (.n 2)) (.refl true) )))⟩
theorem seg_loop {h lb ls nb : Nat} {Rb Rs : Nat → Nat → List Row} {Lb Ls : List Int → List (List Int)} (e : Int) (B : SegOk RS Λ N h Rb lb Lb) (C : SegOk RS Λ N h Rs ls Ls) :
    SegOk RS Λ N h (loopR lb ls nb Rb Rs e) (lb + ls + 2) (fun x => x :: (Lb x ++ (Ls x ++ [x]))) := by
  refine ⟨fun p k => by simp [B.rl, C.rl, loopR]; exact (Nat.le_antisymm (lin [_, _] [] (.a (.v 0) (.a (.v 1) (.n 1))) (.a (.a (.v 0) (.v 1)) (.n 1)) (.refl true) ) (lin [_, _] [] (.a (.a (.v 0) (.v 1)) (.n 1)) (.a (.v 0) (.a (.v 1) (.n 1))) (.refl true) )), fun x => by simp [B.ll, C.ll]; exact (Nat.le_antisymm (lin [_, _] [] (.a (.v 0) (.a (.v 1) (.n 1))) (.a (.a (.v 0) (.v 1)) (.n 1)) (.refl true) ) (lin [_, _] [] (.a (.a (.v 0) (.v 1)) (.n 1)) (.a (.v 0) (.a (.v 1) (.n 1))) (.refl true) )), fun x => ⟨_, rfl⟩, fun p k x hx hR hL hN => ?_⟩
  simp only [loopR, List.cons_append, List.nil_append, List.append_assoc, AllAt, AllAt_append, B.rl, B.ll, C.rl, C.ll] at hR hL ⊢
  obtain ⟨zz, hRb, hRs, zz⟩ := hR
  obtain ⟨h0, hLb, hLs, hJ, hE, zz⟩ := hL
  have hLs' : AllAt (IsLab Λ) (p + 1 + lb) (Ls x ++ [x]) := by
    rw [AllAt_append, C.ll]
    exact ⟨hLs, hJ, trivial⟩
  obtain ⟨c1, c2⟩ := C.ends hLs'
  have hLb' : AllAt (IsLab Λ) (p + 1) (Lb x ++ [x]) := by
    rw [AllAt_append, B.ll]
    exact ⟨hLb, c1, trivial⟩
  obtain ⟨b1, b2⟩ := B.ends hLb'
  exact ⟨good_unless h0 b1 (lab_eq hE (by exact (Nat.le_antisymm (lin [_, _, _] [] (.a (.a (.a (.a (.v 0) (.n 1)) (.v 1)) (.v 2)) (.n 1)) (.a (.a (.a (.v 0) (.v 1)) (.v 2)) (.n 2)) (.refl true) ) (lin [_, _, _] [] (.a (.a (.a (.v 0) (.v 1)) (.v 2)) (.n 2)) (.a (.a (.a (.a (.v 0) (.n 1)) (.v 1)) (.v 2)) (.n 1)) (.refl true) )))) (by exact (linl [_, _, _, _] [.lt (.a (.v 0) (.a (.a (.v 1) (.v 2)) (.n 2))) (.v 3)] (.a (.v 0) (.n 1)) (.v 3) (.refl true) hN)) (by exact (linl [_, _, _, _] [.lt (.a (.v 0) (.a (.a (.v 1) (.v 2)) (.n 2))) (.v 3)] (.a (.a (.a (.v 0) (.v 1)) (.v 2)) (.n 2)) (.v 3) (.refl true) hN)) (by exact (lin [_, _] [.le (.a (.v 0) (.v 1)) (.n 900)] (.v 0) (.n 900) (.refl true) hx)), B.ok _ _ x hx hRb hLb' (by exact (linl [_, _, _, _] [.lt (.a (.v 0) (.a (.a (.v 1) (.v 2)) (.n 2))) (.v 3)] (.a (.a (.v 0) (.n 1)) (.v 1)) (.v 3) (.refl true) hN)), C.ok _ _ x hx hRs hLs' (by exact (linl [_, _, _, _] [.lt (.a (.v 0) (.a (.a (.v 1) (.v 2)) (.n 2))) (.v 3)] (.a (.a (.a (.v 0) (.n 1)) (.v 1)) (.v 2)) (.v 3) (.refl true) hN)), good_jump hJ h0 (by exact (linl [_, _, _, _] [.lt (.a (.v 0) (.a (.a (.v 1) (.v 2)) (.n 2))) (.v 3)] (.v 0) (.v 3) (.refl true) hN)) (by exact (lin [_, _] [.le (.a (.v 0) (.v 1)) (.n 900)] (.v 0) (.n 900) (.refl true) hx)), trivial⟩
theorem seg_forever {h lb : Nat} {Rb : Nat → Nat → List Row} {Lb : List Int → List (List Int)} (B : SegOk RS Λ N h Rb lb Lb) : SegOk RS Λ N h (fun p k => Rb p k ++ [.jump (p : Nat)]) (lb + 1) (fun x => Lb x ++ [x]) := by
  refine ⟨fun p k => by simp [B.rl], fun x => by simp [B.ll], fun x => ?_, fun p k x hx hR hL hN => ?_⟩
  · obtain ⟨t, ht⟩ := B.hd x
    exact ⟨t ++ [x], by rw [ht]; rfl⟩
  rw [AllAt_append] at hR hL
  rw [AllAt_append, B.rl]
  obtain ⟨b1, b2⟩ := B.ends hL.1
  exact ⟨B.ok _ _ x hx hR.1 hL.1 (by exact (linl [_, _, _] [.lt (.a (.v 0) (.a (.v 1) (.n 1))) (.v 2)] (.a (.v 0) (.v 1)) (.v 2) (.refl true) hN)), good_jump b2 b1 (by exact (linl [_, _, _] [.lt (.a (.v 0) (.a (.v 1) (.n 1))) (.v 2)] (.v 0) (.v 2) (.refl true) hN)) (by exact (lin [_, _] [.le (.a (.v 0) (.v 1)) (.n 900)] (.v 0) (.n 900) (.refl true) hx)), trivial⟩
theorem seg_repeat {h lb : Nat} {Rb : Nat → Nat → List Row} {Lb : List Int → List (List Int)} (e : Int) (B : SegOk RS Λ N h Rb lb Lb) :
    SegOk RS Λ N h (fun p k => .times k e :: .again k (p + lb + 3 : Nat) :: (Rb (p + 2) (k + 1) ++ [.jump (p + 1 : Nat)])) (lb + 3) (fun x => x :: x :: (Lb x ++ [x])) := by
  refine ⟨fun p k => by simp [B.rl], fun x => by simp [B.ll], fun x => ⟨_, rfl⟩, fun p k x hx hR hL hN => ?_⟩
  simp only [List.cons_append, List.nil_append, List.append_assoc, AllAt, AllAt_append, B.rl, B.ll] at hR hL ⊢
  obtain ⟨zz, zz, hRb, zz⟩ := hR
  obtain ⟨h0, h1, hLb, hJ, hE, zz⟩ := hL
  have hLb' : AllAt (IsLab Λ) (p + 2) (Lb x ++ [x]) := by
    rw [AllAt_append, B.ll]
    exact ⟨hLb, hJ, trivial⟩
  obtain ⟨b1, b2⟩ := B.ends hLb'
  exact ⟨good_simple rfl rfl (fun zz => rfl) (ctx_triv (fun zz zz h => (by cases h)) (fun zz zz h => (by cases h)) (fun zz zz h => (by cases h))) rfl h0 h1 (by exact (linl [_, _, _] [.lt (.a (.v 0) (.a (.v 1) (.n 3))) (.v 2)] (.a (.v 0) (.n 1)) (.v 2) (.refl true) hN)) (by exact (lin [_, _] [.le (.a (.v 0) (.v 1)) (.n 900)] (.v 0) (.n 900) (.refl true) hx)), good_again h1 b1 (lab_eq hE (by exact (Nat.le_antisymm (lin [_, _] [] (.a (.a (.a (.a (.v 0) (.n 1)) (.n 1)) (.v 1)) (.n 1)) (.a (.a (.v 0) (.v 1)) (.n 3)) (.refl true) ) (lin [_, _] [] (.a (.a (.v 0) (.v 1)) (.n 3)) (.a (.a (.a (.a (.v 0) (.n 1)) (.n 1)) (.v 1)) (.n 1)) (.refl true) )))) (by exact (linl [_, _, _] [.lt (.a (.v 0) (.a (.v 1) (.n 3))) (.v 2)] (.a (.a (.v 0) (.n 1)) (.n 1)) (.v 2) (.refl true) hN)) (by exact (linl [_, _, _] [.lt (.a (.v 0) (.a (.v 1) (.n 3))) (.v 2)] (.a (.a (.v 0) (.v 1)) (.n 3)) (.v 2) (.refl true) hN)) (by exact (lin [_, _] [.le (.a (.v 0) (.v 1)) (.n 900)] (.v 0) (.n 900) (.refl true) hx)),
    B.ok _ _ x hx hRb hLb' (by exact (linl [_, _, _] [.lt (.a (.v 0) (.a (.v 1) (.n 3))) (.v 2)] (.a (.a (.a (.v 0) (.n 1)) (.n 1)) (.v 1)) (.v 2) (.refl true) hN)), good_jump hJ h1 (by exact (linl [_, _, _] [.lt (.a (.v 0) (.a (.v 1) (.n 3))) (.v 2)] (.a (.v 0) (.n 1)) (.v 2) (.refl true) hN)) (by exact (lin [_, _] [.le (.a (.v 0) (.v 1)) (.n 900)] (.v 0) (.n 900) (.refl true) hx)), trivial⟩
theorem seg_head {h lb : Nat} {r : Row} {Rb : Nat → Nat → List Row} {Lb : List Int → List (List Int)} (hf : r.falls = true) (ht : r.targets = []) (hb : ∀ x, r.Beh x x) (hc : ∀ i, Ctx RS i r) (hs : r.isStop = false) (B : SegOk RS Λ N h Rb lb Lb) : SegOk RS Λ N h (fun p k => r :: Rb (p + 1) k) (lb + 1) (fun x => x :: Lb x) := by
  refine ⟨fun p k => by simp [B.rl], fun x => by simp [B.ll], fun x => ⟨_, rfl⟩, fun p k x hx hR hL hN => ?_⟩
  obtain ⟨b1, b2⟩ := B.ends hL.2
  exact ⟨good_simple hf ht hb hc hs hL.1 b1 (by exact (linl [_, _, _] [.lt (.a (.v 0) (.a (.v 1) (.n 1))) (.v 2)] (.a (.v 0) (.n 1)) (.v 2) (.refl true) hN)) (by exact (lin [_, _] [.le (.a (.v 0) (.v 1)) (.n 900)] (.v 0) (.n 900) (.refl true) hx)), B.ok _ _ x hx hR.2 hL.2 (by exact (linl [_, _, _] [.lt (.a (.v 0) (.a (.v 1) (.n 1))) (.v 2)] (.a (.a (.v 0) (.n 1)) (.v 1)) (.v 2) (.refl true) hN))⟩
theorem seg_case3 {h ld la lc nd na : Nat} {Rd Ra Rc : Nat → Nat → List Row} {Ld La Lc : List Int → List (List Int)} (v : Option Int) (k0 : Nat) (D : SegOk RS Λ N h Rd ld Ld) (A : SegOk RS Λ N h Ra la La) (C : SegOk RS Λ N h Rc lc Lc) :
    SegOk RS Λ N h (case3 (matR v k0) ld la lc nd na Rd Ra Rc) (ld + la + lc + 6) (fun x => x :: x :: x :: (Ld x ++ x :: (La x ++ x :: (Lc x ++ [x])))) := by
  refine ⟨fun p k => by simp [D.rl, A.rl, C.rl, case3]; exact (Nat.le_antisymm (lin [_, _, _] [] (.a (.v 0) (.a (.a (.v 1) (.a (.a (.v 2) (.n 1)) (.n 1))) (.n 1))) (.a (.a (.a (.v 0) (.v 1)) (.v 2)) (.n 3)) (.refl true) ) (lin [_, _, _] [] (.a (.a (.a (.v 0) (.v 1)) (.v 2)) (.n 3)) (.a (.v 0) (.a (.a (.v 1) (.a (.a (.v 2) (.n 1)) (.n 1))) (.n 1))) (.refl true) )), fun x => by simp [D.ll, A.ll, C.ll]; exact (Nat.le_antisymm (lin [_, _, _] [] (.a (.v 0) (.a (.a (.v 1) (.a (.a (.v 2) (.n 1)) (.n 1))) (.n 1))) (.a (.a (.a (.v 0) (.v 1)) (.v 2)) (.n 3)) (.refl true) ) (lin [_, _, _] [] (.a (.a (.a (.v 0) (.v 1)) (.v 2)) (.n 3)) (.a (.v 0) (.a (.a (.v 1) (.a (.a (.v 2) (.n 1)) (.n 1))) (.n 1))) (.refl true) )), fun x => ⟨_, rfl⟩, fun p k x hx hR hL hN => ?_⟩
  simp only [case3, List.cons_append, List.nil_append, List.append_assoc, AllAt, AllAt_append, D.rl, D.ll, A.rl, A.ll, C.rl, C.ll] at hR hL ⊢
  obtain ⟨zz, zz, zz, hRd, zz, hRa, zz, hRc, zz⟩ := hR
  obtain ⟨h0, h1, h2, hLd, hJ1, hLa, hJ2, hLc, hJ3, hE, zz⟩ := hL
  have hLd' : AllAt (IsLab Λ) (p + 3) (Ld x ++ [x]) := by
    rw [AllAt_append, D.ll]
    exact ⟨hLd, hJ1, trivial⟩
  have hLa' : AllAt (IsLab Λ) (p + ld + 4) (La x ++ [x]) := by
    rw [AllAt_append, A.ll]
    exact ⟨at_eq hLa (by exact (Nat.le_antisymm (lin [_, _] [] (.a (.a (.a (.a (.a (.v 0) (.n 1)) (.n 1)) (.n 1)) (.v 1)) (.n 1)) (.a (.a (.v 0) (.v 1)) (.n 4)) (.refl true) ) (lin [_, _] [] (.a (.a (.v 0) (.v 1)) (.n 4)) (.a (.a (.a (.a (.a (.v 0) (.n 1)) (.n 1)) (.n 1)) (.v 1)) (.n 1)) (.refl true) ))), lab_eq hJ2 (by exact (Nat.le_antisymm (lin [_, _, _] [] (.a (.a (.a (.a (.a (.a (.v 0) (.n 1)) (.n 1)) (.n 1)) (.v 1)) (.n 1)) (.v 2)) (.a (.a (.a (.v 0) (.v 1)) (.n 4)) (.v 2)) (.refl true) ) (lin [_, _, _] [] (.a (.a (.a (.v 0) (.v 1)) (.n 4)) (.v 2)) (.a (.a (.a (.a (.a (.a (.v 0) (.n 1)) (.n 1)) (.n 1)) (.v 1)) (.n 1)) (.v 2)) (.refl true) ))), trivial⟩
  have hLc' : AllAt (IsLab Λ) (p + ld + la + 5) (Lc x ++ [x]) := by
    rw [AllAt_append, C.ll]
    exact ⟨at_eq hLc (by exact (Nat.le_antisymm (lin [_, _, _] [] (.a (.a (.a (.a (.a (.a (.a (.v 0) (.n 1)) (.n 1)) (.n 1)) (.v 1)) (.n 1)) (.v 2)) (.n 1)) (.a (.a (.a (.v 0) (.v 1)) (.v 2)) (.n 5)) (.refl true) ) (lin [_, _, _] [] (.a (.a (.a (.v 0) (.v 1)) (.v 2)) (.n 5)) (.a (.a (.a (.a (.a (.a (.a (.v 0) (.n 1)) (.n 1)) (.n 1)) (.v 1)) (.n 1)) (.v 2)) (.n 1)) (.refl true) ))), lab_eq hJ3 (by exact (Nat.le_antisymm (lin [_, _, _, _] [] (.a (.a (.a (.a (.a (.a (.a (.a (.v 0) (.n 1)) (.n 1)) (.n 1)) (.v 1)) (.n 1)) (.v 2)) (.n 1)) (.v 3)) (.a (.a (.a (.a (.v 0) (.v 1)) (.v 2)) (.n 5)) (.v 3)) (.refl true) ) (lin [_, _, _, _] [] (.a (.a (.a (.a (.v 0) (.v 1)) (.v 2)) (.n 5)) (.v 3)) (.a (.a (.a (.a (.a (.a (.a (.a (.v 0) (.n 1)) (.n 1)) (.n 1)) (.v 1)) (.n 1)) (.v 2)) (.n 1)) (.v 3)) (.refl true) ))), trivial⟩
  obtain ⟨d1, d2⟩ := D.ends hLd'
  obtain ⟨a1, a2⟩ := A.ends hLa'
  obtain ⟨c1, c2⟩ := C.ends hLc'
  exact ⟨good_mat h0 h1 a1 (by exact (linl [_, _, _, _, _] [.lt (.a (.v 0) (.a (.a (.a (.v 1) (.v 2)) (.v 3)) (.n 6))) (.v 4)] (.a (.v 0) (.n 1)) (.v 4) (.refl true) hN)) (by exact (linl [_, _, _, _, _] [.lt (.a (.v 0) (.a (.a (.a (.v 1) (.v 2)) (.v 3)) (.n 6))) (.v 4)] (.a (.a (.v 0) (.v 1)) (.n 4)) (.v 4) (.refl true) hN)) (by exact (lin [_, _] [.le (.a (.v 0) (.v 1)) (.n 900)] (.v 0) (.n 900) (.refl true) hx)), good_mat h1 h2 a1 (by exact (linl [_, _, _, _, _] [.lt (.a (.v 0) (.a (.a (.a (.v 1) (.v 2)) (.v 3)) (.n 6))) (.v 4)] (.a (.a (.v 0) (.n 1)) (.n 1)) (.v 4) (.refl true) hN)) (by exact (linl [_, _, _, _, _] [.lt (.a (.v 0) (.a (.a (.a (.v 1) (.v 2)) (.v 3)) (.n 6))) (.v 4)] (.a (.a (.v 0) (.v 1)) (.n 4)) (.v 4) (.refl true) hN)) (by exact (lin [_, _] [.le (.a (.v 0) (.v 1)) (.n 900)] (.v 0) (.n 900) (.refl true) hx)), good_mat h2 d1 c1 (by exact (linl [_, _, _, _, _] [.lt (.a (.v 0) (.a (.a (.a (.v 1) (.v 2)) (.v 3)) (.n 6))) (.v 4)] (.a (.a (.a (.v 0) (.n 1)) (.n 1)) (.n 1)) (.v 4) (.refl true) hN)) (by exact (linl [_, _, _, _, _] [.lt (.a (.v 0) (.a (.a (.a (.v 1) (.v 2)) (.v 3)) (.n 6))) (.v 4)] (.a (.a (.a (.v 0) (.v 1)) (.v 2)) (.n 5)) (.v 4) (.refl true) hN)) (by exact (lin [_, _] [.le (.a (.v 0) (.v 1)) (.n 900)] (.v 0) (.n 900) (.refl true) hx)),
    D.ok _ _ x hx hRd hLd' (by exact (linl [_, _, _, _, _] [.lt (.a (.v 0) (.a (.a (.a (.v 1) (.v 2)) (.v 3)) (.n 6))) (.v 4)] (.a (.a (.a (.a (.v 0) (.n 1)) (.n 1)) (.n 1)) (.v 1)) (.v 4) (.refl true) hN)), good_jump hJ1 (lab_eq hE (by exact (Nat.le_antisymm (lin [_, _, _, _] [] (.a (.a (.a (.a (.a (.a (.a (.a (.a (.v 0) (.n 1)) (.n 1)) (.n 1)) (.v 1)) (.n 1)) (.v 2)) (.n 1)) (.v 3)) (.n 1)) (.a (.a (.a (.a (.v 0) (.v 1)) (.v 2)) (.v 3)) (.n 6)) (.refl true) ) (lin [_, _, _, _] [] (.a (.a (.a (.a (.v 0) (.v 1)) (.v 2)) (.v 3)) (.n 6)) (.a (.a (.a (.a (.a (.a (.a (.a (.a (.v 0) (.n 1)) (.n 1)) (.n 1)) (.v 1)) (.n 1)) (.v 2)) (.n 1)) (.v 3)) (.n 1)) (.refl true) )))) (by exact (linl [_, _, _, _, _] [.lt (.a (.v 0) (.a (.a (.a (.v 1) (.v 2)) (.v 3)) (.n 6))) (.v 4)] (.a (.a (.a (.a (.v 0) (.v 1)) (.v 2)) (.v 3)) (.n 6)) (.v 4) (.refl true) hN)) (by exact (lin [_, _] [.le (.a (.v 0) (.v 1)) (.n 900)] (.v 0) (.n 900) (.refl true) hx)),
    at_eq (A.ok _ _ x hx (at_eq hRa (by exact (Nat.le_antisymm (lin [_, _] [] (.a (.a (.a (.a (.a (.v 0) (.n 1)) (.n 1)) (.n 1)) (.v 1)) (.n 1)) (.a (.a (.v 0) (.v 1)) (.n 4)) (.refl true) ) (lin [_, _] [] (.a (.a (.v 0) (.v 1)) (.n 4)) (.a (.a (.a (.a (.a (.v 0) (.n 1)) (.n 1)) (.n 1)) (.v 1)) (.n 1)) (.refl true) )))) hLa' (by exact (linl [_, _, _, _, _] [.lt (.a (.v 0) (.a (.a (.a (.v 1) (.v 2)) (.v 3)) (.n 6))) (.v 4)] (.a (.a (.a (.v 0) (.v 1)) (.n 4)) (.v 2)) (.v 4) (.refl true) hN))) (by exact (Nat.le_antisymm (lin [_, _] [] (.a (.a (.v 0) (.v 1)) (.n 4)) (.a (.a (.a (.a (.a (.v 0) (.n 1)) (.n 1)) (.n 1)) (.v 1)) (.n 1)) (.refl true) ) (lin [_, _] [] (.a (.a (.a (.a (.a (.v 0) (.n 1)) (.n 1)) (.n 1)) (.v 1)) (.n 1)) (.a (.a (.v 0) (.v 1)) (.n 4)) (.refl true) ))), good_jump hJ2 (lab_eq hE (by exact (Nat.le_antisymm (lin [_, _, _, _] [] (.a (.a (.a (.a (.a (.a (.a (.a (.a (.v 0) (.n 1)) (.n 1)) (.n 1)) (.v 1)) (.n 1)) (.v 2)) (.n 1)) (.v 3)) (.n 1)) (.a (.a (.a (.a (.v 0) (.v 1)) (.v 2)) (.v 3)) (.n 6)) (.refl true) ) (lin [_, _, _, _] [] (.a (.a (.a (.a (.v 0) (.v 1)) (.v 2)) (.v 3)) (.n 6)) (.a (.a (.a (.a (.a (.a (.a (.a (.a (.v 0) (.n 1)) (.n 1)) (.n 1)) (.v 1)) (.n 1)) (.v 2)) (.n 1)) (.v 3)) (.n 1)) (.refl true) )))) (by exact (linl [_, _, _, _, _] [.lt (.a (.v 0) (.a (.a (.a (.v 1) (.v 2)) (.v 3)) (.n 6))) (.v 4)] (.a (.a (.a (.a (.v 0) (.v 1)) (.v 2)) (.v 3)) (.n 6)) (.v 4) (.refl true) hN)) (by exact (lin [_, _] [.le (.a (.v 0) (.v 1)) (.n 900)] (.v 0) (.n 900) (.refl true) hx)),
    at_eq (C.ok _ _ x hx (at_eq hRc (by exact (Nat.le_antisymm (lin [_, _, _] [] (.a (.a (.a (.a (.a (.a (.a (.v 0) (.n 1)) (.n 1)) (.n 1)) (.v 1)) (.n 1)) (.v 2)) (.n 1)) (.a (.a (.a (.v 0) (.v 1)) (.v 2)) (.n 5)) (.refl true) ) (lin [_, _, _] [] (.a (.a (.a (.v 0) (.v 1)) (.v 2)) (.n 5)) (.a (.a (.a (.a (.a (.a (.a (.v 0) (.n 1)) (.n 1)) (.n 1)) (.v 1)) (.n 1)) (.v 2)) (.n 1)) (.refl true) )))) hLc' (by exact (linl [_, _, _, _, _] [.lt (.a (.v 0) (.a (.a (.a (.v 1) (.v 2)) (.v 3)) (.n 6))) (.v 4)] (.a (.a (.a (.a (.v 0) (.v 1)) (.v 2)) (.n 5)) (.v 3)) (.v 4) (.refl true) hN))) (by exact (Nat.le_antisymm (lin [_, _, _] [] (.a (.a (.a (.v 0) (.v 1)) (.v 2)) (.n 5)) (.a (.a (.a (.a (.a (.a (.a (.v 0) (.n 1)) (.n 1)) (.n 1)) (.v 1)) (.n 1)) (.v 2)) (.n 1)) (.refl true) ) (lin [_, _, _] [] (.a (.a (.a (.a (.a (.a (.a (.v 0) (.n 1)) (.n 1)) (.n 1)) (.v 1)) (.n 1)) (.v 2)) (.n 1)) (.a (.a (.a (.v 0) (.v 1)) (.v 2)) (.n 5)) (.refl true) ))), good_jump hJ3 (lab_eq hE (by exact (Nat.le_antisymm (lin [_, _, _, _] [] (.a (.a (.a (.a (.a (.a (.a (.a (.a (.v 0) (.n 1)) (.n 1)) (.n 1)) (.v 1)) (.n 1)) (.v 2)) (.n 1)) (.v 3)) (.n 1)) (.a (.a (.a (.a (.v 0) (.v 1)) (.v 2)) (.v 3)) (.n 6)) (.refl true) ) (lin [_, _, _, _] [] (.a (.a (.a (.a (.v 0) (.v 1)) (.v 2)) (.v 3)) (.n 6)) (.a (.a (.a (.a (.a (.a (.a (.a (.a (.v 0) (.n 1)) (.n 1)) (.n 1)) (.v 1)) (.n 1)) (.v 2)) (.n 1)) (.v 3)) (.n 1)) (.refl true) )))) (by exact (linl [_, _, _, _, _] [.lt (.a (.v 0) (.a (.a (.a (.v 1) (.v 2)) (.v 3)) (.n 6))) (.v 4)] (.a (.a (.a (.a (.v 0) (.v 1)) (.v 2)) (.v 3)) (.n 6)) (.v 4) (.refl true) hN)) (by exact (lin [_, _] [.le (.a (.v 0) (.v 1)) (.n 900)] (.v 0) (.n 900) (.refl true) hx)), trivial⟩
theorem seg_case2 {h ld la nd : Nat} {Rd Ra : Nat → Nat → List Row} {Ld La : List Int → List (List Int)} (v : Option Int) (k0 : Nat) (D : SegOk RS Λ N h Rd ld Ld) (A : SegOk RS Λ N h Ra la La) :
    SegOk RS Λ N h (case2 (matR v k0) ld la nd Rd Ra) (ld + la + 4) (fun x => x :: x :: (Ld x ++ x :: (La x ++ [x]))) := by
  refine ⟨fun p k => by simp [D.rl, A.rl, case2]; exact (Nat.le_antisymm (lin [_, _] [] (.a (.v 0) (.a (.a (.v 1) (.n 1)) (.n 1))) (.a (.a (.v 0) (.v 1)) (.n 2)) (.refl true) ) (lin [_, _] [] (.a (.a (.v 0) (.v 1)) (.n 2)) (.a (.v 0) (.a (.a (.v 1) (.n 1)) (.n 1))) (.refl true) )), fun x => by simp [D.ll, A.ll]; exact (Nat.le_antisymm (lin [_, _] [] (.a (.v 0) (.a (.a (.v 1) (.n 1)) (.n 1))) (.a (.a (.v 0) (.v 1)) (.n 2)) (.refl true) ) (lin [_, _] [] (.a (.a (.v 0) (.v 1)) (.n 2)) (.a (.v 0) (.a (.a (.v 1) (.n 1)) (.n 1))) (.refl true) )), fun x => ⟨_, rfl⟩, fun p k x hx hR hL hN => ?_⟩
  simp only [case2, List.cons_append, List.nil_append, List.append_assoc, AllAt, AllAt_append, D.rl, D.ll, A.rl, A.ll] at hR hL ⊢
  obtain ⟨zz, zz, hRd, zz, hRa, zz⟩ := hR
  obtain ⟨h0, h1, hLd, hJ1, hLa, hJ2, hE, zz⟩ := hL
  have hLd' : AllAt (IsLab Λ) (p + 2) (Ld x ++ [x]) := by
    rw [AllAt_append, D.ll]
    exact ⟨hLd, hJ1, trivial⟩
  have hLa' : AllAt (IsLab Λ) (p + ld + 3) (La x ++ [x]) := by
    rw [AllAt_append, A.ll]
    exact ⟨at_eq hLa (by exact (Nat.le_antisymm (lin [_, _] [] (.a (.a (.a (.a (.v 0) (.n 1)) (.n 1)) (.v 1)) (.n 1)) (.a (.a (.v 0) (.v 1)) (.n 3)) (.refl true) ) (lin [_, _] [] (.a (.a (.v 0) (.v 1)) (.n 3)) (.a (.a (.a (.a (.v 0) (.n 1)) (.n 1)) (.v 1)) (.n 1)) (.refl true) ))), lab_eq hJ2 (by exact (Nat.le_antisymm (lin [_, _, _] [] (.a (.a (.a (.a (.a (.v 0) (.n 1)) (.n 1)) (.v 1)) (.n 1)) (.v 2)) (.a (.a (.a (.v 0) (.v 1)) (.n 3)) (.v 2)) (.refl true) ) (lin [_, _, _] [] (.a (.a (.a (.v 0) (.v 1)) (.n 3)) (.v 2)) (.a (.a (.a (.a (.a (.v 0) (.n 1)) (.n 1)) (.v 1)) (.n 1)) (.v 2)) (.refl true) ))), trivial⟩
  obtain ⟨d1, d2⟩ := D.ends hLd'
  obtain ⟨a1, a2⟩ := A.ends hLa'
  exact ⟨good_mat h0 h1 a1 (by exact (linl [_, _, _, _] [.lt (.a (.v 0) (.a (.a (.v 1) (.v 2)) (.n 4))) (.v 3)] (.a (.v 0) (.n 1)) (.v 3) (.refl true) hN)) (by exact (linl [_, _, _, _] [.lt (.a (.v 0) (.a (.a (.v 1) (.v 2)) (.n 4))) (.v 3)] (.a (.a (.v 0) (.v 1)) (.n 3)) (.v 3) (.refl true) hN)) (by exact (lin [_, _] [.le (.a (.v 0) (.v 1)) (.n 900)] (.v 0) (.n 900) (.refl true) hx)), good_mat h1 d1 a1 (by exact (linl [_, _, _, _] [.lt (.a (.v 0) (.a (.a (.v 1) (.v 2)) (.n 4))) (.v 3)] (.a (.a (.v 0) (.n 1)) (.n 1)) (.v 3) (.refl true) hN)) (by exact (linl [_, _, _, _] [.lt (.a (.v 0) (.a (.a (.v 1) (.v 2)) (.n 4))) (.v 3)] (.a (.a (.v 0) (.v 1)) (.n 3)) (.v 3) (.refl true) hN)) (by exact (lin [_, _] [.le (.a (.v 0) (.v 1)) (.n 900)] (.v 0) (.n 900) (.refl true) hx)),
    D.ok _ _ x hx hRd hLd' (by exact (linl [_, _, _, _] [.lt (.a (.v 0) (.a (.a (.v 1) (.v 2)) (.n 4))) (.v 3)] (.a (.a (.a (.v 0) (.n 1)) (.n 1)) (.v 1)) (.v 3) (.refl true) hN)), good_jump hJ1 (lab_eq hE (by exact (Nat.le_antisymm (lin [_, _, _] [] (.a (.a (.a (.a (.a (.a (.v 0) (.n 1)) (.n 1)) (.v 1)) (.n 1)) (.v 2)) (.n 1)) (.a (.a (.a (.v 0) (.v 1)) (.v 2)) (.n 4)) (.refl true) ) (lin [_, _, _] [] (.a (.a (.a (.v 0) (.v 1)) (.v 2)) (.n 4)) (.a (.a (.a (.a (.a (.a (.v 0) (.n 1)) (.n 1)) (.v 1)) (.n 1)) (.v 2)) (.n 1)) (.refl true) )))) (by exact (linl [_, _, _, _] [.lt (.a (.v 0) (.a (.a (.v 1) (.v 2)) (.n 4))) (.v 3)] (.a (.a (.a (.v 0) (.v 1)) (.v 2)) (.n 4)) (.v 3) (.refl true) hN)) (by exact (lin [_, _] [.le (.a (.v 0) (.v 1)) (.n 900)] (.v 0) (.n 900) (.refl true) hx)),
    at_eq (A.ok _ _ x hx (at_eq hRa (by exact (Nat.le_antisymm (lin [_, _] [] (.a (.a (.a (.a (.v 0) (.n 1)) (.n 1)) (.v 1)) (.n 1)) (.a (.a (.v 0) (.v 1)) (.n 3)) (.refl true) ) (lin [_, _] [] (.a (.a (.v 0) (.v 1)) (.n 3)) (.a (.a (.a (.a (.v 0) (.n 1)) (.n 1)) (.v 1)) (.n 1)) (.refl true) )))) hLa' (by exact (linl [_, _, _, _] [.lt (.a (.v 0) (.a (.a (.v 1) (.v 2)) (.n 4))) (.v 3)] (.a (.a (.a (.v 0) (.v 1)) (.n 3)) (.v 2)) (.v 3) (.refl true) hN))) (by exact (Nat.le_antisymm (lin [_, _] [] (.a (.a (.v 0) (.v 1)) (.n 3)) (.a (.a (.a (.a (.v 0) (.n 1)) (.n 1)) (.v 1)) (.n 1)) (.refl true) ) (lin [_, _] [] (.a (.a (.a (.a (.v 0) (.n 1)) (.n 1)) (.v 1)) (.n 1)) (.a (.a (.v 0) (.v 1)) (.n 3)) (.refl true) ))), good_jump hJ2 (lab_eq hE (by exact (Nat.le_antisymm (lin [_, _, _] [] (.a (.a (.a (.a (.a (.a (.v 0) (.n 1)) (.n 1)) (.v 1)) (.n 1)) (.v 2)) (.n 1)) (.a (.a (.a (.v 0) (.v 1)) (.v 2)) (.n 4)) (.refl true) ) (lin [_, _, _] [] (.a (.a (.a (.v 0) (.v 1)) (.v 2)) (.n 4)) (.a (.a (.a (.a (.a (.a (.v 0) (.n 1)) (.n 1)) (.v 1)) (.n 1)) (.v 2)) (.n 1)) (.refl true) )))) (by exact (linl [_, _, _, _] [.lt (.a (.v 0) (.a (.a (.v 1) (.v 2)) (.n 4))) (.v 3)] (.a (.a (.a (.v 0) (.v 1)) (.v 2)) (.n 4)) (.v 3) (.refl true) hN)) (by exact (lin [_, _] [.le (.a (.v 0) (.v 1)) (.n 900)] (.v 0) (.n 900) (.refl true) hx)), trivial⟩
end
end
-- P30
section
set_option maxHeartbeats 400000
open PySem
noncomputable def vLab (v : Option Int) (x : List Int) : List (List Int) := match v with
  | none => []
  | some _ => [x]
mutual
noncomputable def S.labs : S → List Int → List (List Int)
  | .none, _ => []
  | .pl q, x => List.replicate q.len x
  | .ite _ a b, x => if b.isNone then x :: a.labs x else x :: (a.labs x ++ x :: b.labs x)
  | .caseA v a c, x => vLab v x ++ x :: x :: x :: ([] ++ x :: (a.labs x ++ x :: (c.labs x ++ [x])))
  | .caseB v d a c, x => vLab v x ++ x :: x :: x :: (d.labs x ++ x :: (a.labs x ++ x :: (c.labs x ++ [x])))
  | .caseC v a d, x => vLab v x ++ x :: x :: (d.labs x ++ x :: (a.labs x ++ [x]))
  | .for_ s _ t b, x => List.replicate s.len x ++ x :: (b.labs x ++ (List.replicate t.len x ++ [x]))
  | .while_ _ b, x => x :: (b.labs x ++ ([] ++ [x]))
  | .repeat_ _ b, x => x :: x :: (b.labs x ++ [x])
  | .forever b, x => b.labs x ++ [x]
  | .block l none, x => l.labs x
  | .block l (some c), x => x :: (l.labs (x ++ [(c : Int)]) ++ [x ++ [(c : Int)]])
  | .fork l none, x => x :: x :: x :: l.flabs
  | .fork l (some c), x => x :: (x ++ [(c : Int)]) :: (x ++ [(c : Int)]) :: (x ++ [(c : Int)]) :: x :: l.flabs
  | .delay _ b, x => x :: b.labs x
  | .wait _ b, x => x :: b.labs x
  | .await _ b, x => x :: b.labs x
noncomputable def SL.labs : SL → List Int → List (List Int)
  | .nil, _ => []
  | .cons s r, x => s.labs x ++ r.labs x
noncomputable def SL.flabs : SL → List (List Int)
  | .nil => []
  | .cons s r => s.labs [] ++ [] :: r.flabs
end
theorem Flow.congr {Λ : Nat → List Int} {N a : Nat} {w e w' k : Int} (h : Flow Λ N a (.setE w e)) : Flow Λ N a (.setL w' k) := ⟨h.beh, h.stop, h.tg, h.few, h.short⟩
section
variable {RS : List Row} {Λ : Nat → List Int} {N : Nat}
theorem seg_pl (q : Pl) : SegOk RS Λ N 0 q.rows q.len (fun x => List.replicate q.len x) := by
  have tr : ∀ {r : Row}, (∀ k s, r ≠ .setL k s) → (∀ c t, r ≠ .enter c t) → (∀ ts c, r ≠ .fork ts c) → ∀ i, Ctx RS i r := fun h1 h2 h3 i => ctx_triv h1 h2 h3 i
  have one : ∀ (r : Row), r.falls = true → r.targets = [] → (∀ x, r.Beh x x) → r.isStop = false → (∀ i, Ctx RS i r) → SegOk RS Λ N 0 (fun zz zz => [r]) 1 (fun x => [x]) := fun r h1 h2 h3 h4 h5 => seg_one (fun zz zz => h1) (fun zz zz => h2) (fun zz zz => h3) (fun zz zz => h5) (fun zz zz => h4)
  have three : ∀ (r : Row) (w e : Int), r.falls = true → r.targets = [] → (∀ x, r.Beh x x) → r.isStop = false → (∀ i, Ctx RS i r) → SegOk RS Λ N 0 (fun zz k => [.save k e, r, .setL w k]) 3 (fun x => [x, x, x]) := fun r w e h1 h2 h3 h4 h5 => by
    refine ⟨fun zz zz => rfl, fun zz => rfl, fun x => ⟨_, rfl⟩, fun p k x hx hR hL hN => ?_⟩
    obtain ⟨r0, r1, r2, zz⟩ := hR
    obtain ⟨l0, l1, l2, l3, zz⟩ := hL
    refine ⟨good_simple rfl rfl (fun zz => rfl) (tr (fun zz zz h => (by cases h)) (fun zz zz h => (by cases h)) (fun zz zz h => (by cases h))) rfl l0 l1 (by exact (linl [_, _] [.lt (.a (.v 0) (.n 3)) (.v 1)] (.a (.v 0) (.n 1)) (.v 1) (.refl true) hN)) (by exact (lin [_] [.le (.a (.v 0) (.n 0)) (.n 900)] (.v 0) (.n 900) (.refl true) hx)), good_simple h1 h2 h3 h5 h4 l1 l2 (by exact (linl [_, _] [.lt (.a (.v 0) (.n 3)) (.v 1)] (.a (.a (.v 0) (.n 1)) (.n 1)) (.v 1) (.refl true) hN)) (by exact (lin [_] [.le (.a (.v 0) (.n 0)) (.n 900)] (.v 0) (.n 900) (.refl true) hx)), ?_, trivial⟩
    have hf : Flow Λ N (p + 1 + 1) (.setL w k) := (good_simple (RS := RS) (r := .setE w e) rfl rfl (fun zz => rfl) (tr (fun zz zz h => (by cases h)) (fun zz zz h => (by cases h)) (fun zz zz h => (by cases h))) rfl l2 l3 (by exact (linl [_, _] [.lt (.a (.v 0) (.n 3)) (.v 1)] (.a (.a (.a (.v 0) (.n 1)) (.n 1)) (.n 1)) (.v 1) (.refl true) hN)) (by exact (lin [_] [.le (.a (.v 0) (.n 0)) (.n 900)] (.v 0) (.n 900) (.refl true) hx))).1.congr
    exact ⟨hf, ⟨fun k' s' e' => by
      cases e'
      exact ⟨by exact (lin [_] [] (.n 2) (.a (.a (.v 0) (.n 1)) (.n 1)) (.refl true) ), e, by
        have : p + 1 + 1 - 2 = p := by omega
        rw [this]
        exact r0⟩, fun zz zz h => (by cases h), fun zz zz h => (by cases h)⟩⟩
  cases q
  case setD w e d => exact three _ w e rfl rfl (fun zz => rfl) rfl (tr (fun zz zz h => (by cases h)) (fun zz zz h => (by cases h)) (fun zz zz h => (by cases h)))
  case setA w e d => exact three _ w e rfl rfl (fun zz => rfl) rfl (tr (fun zz zz h => (by cases h)) (fun zz zz h => (by cases h)) (fun zz zz h => (by cases h)))
  all_goals exact one _ rfl rfl (fun zz => rfl) rfl (tr (fun zz zz h => (by cases h)) (fun zz zz h => (by cases h)) (fun zz zz h => (by cases h)))
end
end
-- P31
section
set_option maxHeartbeats 400000
open PySem
section
variable {RS : List Row} {Λ : Nat → List Int} {N : Nat}
theorem seg_blockS {h l : Nat} {R : Nat → Nat → List Row} {L : List Int → List (List Int)} (c : Nat) (A : SegOk RS Λ N h R l L) :
    SegOk RS Λ N (h + 1) (fun p k => .enter c (p + l + 2 : Nat) :: (R (p + 1) k ++ [.leave c])) (l + 2) (fun x => x :: (L (x ++ [(c : Int)]) ++ [x ++ [(c : Int)]])) := by
  refine ⟨fun p k => by simp [A.rl], fun x => by simp [A.ll], fun x => ⟨_, rfl⟩, fun p k x hx hR hL hN => ?_⟩
  simp only [List.cons_append, List.nil_append, List.append_assoc, AllAt, AllAt_append, A.rl, A.ll] at hR hL ⊢
  obtain ⟨zz, hRa, hlv, zz⟩ := hR
  obtain ⟨h0, hLa, hLv, hE, zz⟩ := hL
  have hLa' : AllAt (IsLab Λ) (p + 1) (L (x ++ [(c : Int)]) ++ [x ++ [(c : Int)]]) := by
    rw [AllAt_append, A.ll]
    exact ⟨hLa, hLv, trivial⟩
  obtain ⟨a1, a2⟩ := A.ends hLa'
  refine ⟨good_enter (j := p + l + 1) h0 a1 (lab_eq hE (by exact (Nat.le_antisymm (lin [_, _] [] (.a (.a (.a (.v 0) (.n 1)) (.v 1)) (.n 1)) (.a (.a (.a (.v 0) (.v 1)) (.n 1)) (.n 1)) (.refl true) ) (lin [_, _] [] (.a (.a (.a (.v 0) (.v 1)) (.n 1)) (.n 1)) (.a (.a (.a (.v 0) (.n 1)) (.v 1)) (.n 1)) (.refl true) )))) (by exact (linl [_, _, _] [.lt (.a (.v 0) (.a (.v 1) (.n 2))) (.v 2)] (.a (.v 0) (.n 1)) (.v 2) (.refl true) hN)) (by exact (linl [_, _, _] [.lt (.a (.v 0) (.a (.v 1) (.n 2))) (.v 2)] (.a (.a (.a (.v 0) (.v 1)) (.n 1)) (.n 1)) (.v 2) (.refl true) hN)) ⟨.leave c, ?_⟩ (by exact (lin [_, _] [.le (.a (.v 0) (.a (.v 1) (.n 1))) (.n 900)] (.v 0) (.n 900) (.refl true) hx)), A.ok _ _ _ (by simp; exact (lin [_, _] [.le (.a (.v 0) (.a (.v 1) (.n 1))) (.n 900)] (.a (.a (.v 0) (.n 1)) (.v 1)) (.n 900) (.refl true) hx)) hRa hLa' (by exact (linl [_, _, _] [.lt (.a (.v 0) (.a (.v 1) (.n 2))) (.v 2)] (.a (.a (.v 0) (.n 1)) (.v 1)) (.v 2) (.refl true) hN)), good_leave hLv hE (by exact (linl [_, _, _] [.lt (.a (.v 0) (.a (.v 1) (.n 2))) (.v 2)] (.a (.a (.a (.v 0) (.n 1)) (.v 1)) (.n 1)) (.v 2) (.refl true) hN)) (by exact (lin [_, _] [.le (.a (.v 0) (.a (.v 1) (.n 1))) (.n 900)] (.v 0) (.n 900) (.refl true) hx)), trivial⟩
  have e : p + l + 1 = p + 1 + l := by exact (Nat.le_antisymm (lin [_, _] [] (.a (.a (.v 0) (.v 1)) (.n 1)) (.a (.a (.v 0) (.n 1)) (.v 1)) (.refl true) ) (lin [_, _] [] (.a (.a (.v 0) (.n 1)) (.v 1)) (.a (.a (.v 0) (.v 1)) (.n 1)) (.refl true) ))
  rw [e]
  exact hlv
structure Threads (RS : List Row) (Λ : Nat → List Int) (N : Nat) (ls : SL) : Prop where
  rl : ∀ q k, (ls.frows q k).length = ls.flen
  ll : ls.flabs.length = ls.flen
  ok : ∀ q k, AllAt (IsRow RS) q (ls.frows q k) → AllAt (IsLab Λ) q ls.flabs → q + ls.flen ≤ N → AllAt (GoodR RS Λ N) q (ls.frows q k)
  st : ∀ q k, AllAt (IsRow RS) q (ls.frows q k) → AllAt (IsLab Λ) q ls.flabs → q + ls.flen ≤ N → ∀ t ∈ ls.starts q, ∃ j : Nat, t = j ∧ j < N ∧ Λ j = []
  tl : ∀ q k, 1 ≤ q → RS[q - 1]? = some .fin → AllAt (IsRow RS) q (ls.frows q k) → ∀ t ∈ ls.starts q, ∃ j : Nat, t = j + 1 ∧ RS[j]? = some .fin
theorem threads_nil : Threads RS Λ N .nil := ⟨fun zz zz => rfl, rfl, fun zz zz zz zz zz => trivial, fun zz zz zz zz zz zz h => (by cases h), fun zz zz zz zz zz zz h => (by cases h)⟩
theorem threads_cons {s : S} {r : SL} {h : Nat} (hh : h ≤ 900) (A : SegOk RS Λ N h s.rows s.len s.labs) (B : Threads RS Λ N r) : Threads RS Λ N (.cons s r) := by
  have cut : ∀ {q : Nat}, AllAt (IsLab Λ) q (SL.flabs (.cons s r)) → AllAt (IsLab Λ) q (s.labs [] ++ [[]]) ∧ Λ (q + s.len) = [] ∧ AllAt (IsLab Λ) (q + s.len + 1) r.flabs := fun {q} hL => by
    simp only [SL.flabs, AllAt_append, AllAt, A.ll] at hL ⊢
    exact ⟨⟨hL.1, hL.2.1, trivial⟩, hL.2.1, hL.2.2⟩
  have cutR : ∀ {q k : Nat}, AllAt (IsRow RS) q (SL.frows (.cons s r) q k) → AllAt (IsRow RS) q (s.rows q k) ∧ RS[q + s.len]? = some .fin ∧ AllAt (IsRow RS) (q + s.len + 1) (r.frows (q + s.len + 1) (k + s.nsl)) := fun {q k} hR => by
    simp only [SL.frows, AllAt_append, AllAt, A.rl] at hR
    exact hR
  refine ⟨fun q k => by simp [SL.frows, SL.flen, A.rl, B.rl]; exact (Nat.le_antisymm (lin [_, _] [] (.a (.v 0) (.a (.v 1) (.n 1))) (.a (.a (.v 0) (.n 1)) (.v 1)) (.refl true) ) (lin [_, _] [] (.a (.a (.v 0) (.n 1)) (.v 1)) (.a (.v 0) (.a (.v 1) (.n 1))) (.refl true) )), by simp [SL.flabs, SL.flen, A.ll, B.ll]; exact (Nat.le_antisymm (lin [_, _] [] (.a (.v 0) (.a (.v 1) (.n 1))) (.a (.a (.v 0) (.n 1)) (.v 1)) (.refl true) ) (lin [_, _] [] (.a (.a (.v 0) (.n 1)) (.v 1)) (.a (.v 0) (.a (.v 1) (.n 1))) (.refl true) )), fun q k hR hL hN => ?_, fun q k hR hL hN t ht => ?_, fun q k hq hf hR t ht => ?_⟩
  · obtain ⟨l1, l2, l3⟩ := cut hL
    obtain ⟨r1, zz, r3⟩ := cutR hR
    simp only [SL.flen] at hN
    simp only [SL.frows, AllAt_append, AllAt, A.rl]
    exact ⟨A.ok q k [] (by simpa using hh) r1 l1 (by exact (linl [_, _, _, _] [.le (.a (.v 0) (.a (.a (.v 1) (.n 1)) (.v 2))) (.v 3)] (.a (.v 0) (.v 1)) (.v 3) (.refl true) hN)), good_fin l2, B.ok _ _ r3 l3 (by exact (lin [_, _, _, _] [.le (.a (.v 0) (.a (.a (.v 1) (.n 1)) (.v 2))) (.v 3)] (.a (.a (.a (.v 0) (.v 1)) (.n 1)) (.v 2)) (.v 3) (.refl true) hN))⟩
  · obtain ⟨l1, l2, l3⟩ := cut hL
    obtain ⟨zz, zz, r3⟩ := cutR hR
    simp only [SL.flen] at hN
    simp only [SL.starts, List.mem_cons] at ht
    rcases ht with ht | ht
    · exact ⟨q, ht, by exact (linl [_, _, _, _] [.le (.a (.v 0) (.a (.a (.v 1) (.n 1)) (.v 2))) (.v 3)] (.v 0) (.v 3) (.refl true) hN), (A.ends l1).1⟩
    · exact B.st _ (k + s.nsl) r3 l3 (by exact (lin [_, _, _, _] [.le (.a (.v 0) (.a (.a (.v 1) (.n 1)) (.v 2))) (.v 3)] (.a (.a (.a (.v 0) (.v 1)) (.n 1)) (.v 2)) (.v 3) (.refl true) hN)) t ht
  · obtain ⟨zz, r2, r3⟩ := cutR hR
    simp only [SL.starts, List.mem_cons] at ht
    rcases ht with ht | ht
    · exact ⟨q - 1, by omega, hf⟩
    · exact B.tl _ (k + s.nsl) (by exact (lin [_, _] [] (.n 1) (.a (.a (.v 0) (.v 1)) (.n 1)) (.refl true) )) (by simpa using r2) r3 t ht
theorem starts_sorted : ∀ (ls : SL) (q : Nat), (ls.starts q).Pairwise (· ≤ ·) ∧ ∀ t ∈ ls.starts q, (q : Int) ≤ t
  | .nil, q => ⟨List.Pairwise.nil, fun t h => (by cases h)⟩
  | .cons s r, q => by
    obtain ⟨h1, h2⟩ := starts_sorted r (q + s.len + 1)
    simp only [SL.starts]
    refine ⟨List.pairwise_cons.mpr ⟨fun t ht => ?_, h1⟩, fun t ht => ?_⟩
    · have := h2 t ht
      omega
    · rcases List.mem_cons.mp ht with e | e
      · omega
      · have := h2 t e
        omega
theorem starts_num : ∀ (ls : SL) (q : Nat), (ls.starts q).length = ls.num
  | .nil, _ => rfl
  | .cons s r, q => by simp [SL.starts, SL.num, starts_num r]
theorem flen_pos : ∀ (ls : SL), 1 ≤ ls.num → 1 ≤ ls.flen
  | .nil, h => by simp [SL.num] at h
  | .cons s r, _ => by simp [SL.flen]; exact (lin [_, _] [] (.n 1) (.a (.a (.v 0) (.n 1)) (.v 1)) (.refl true) )
theorem frows_last : ∀ (ls : SL) (q k : Nat), 1 ≤ ls.num → AllAt (IsRow RS) q (ls.frows q k) → RS[q + ls.flen - 1]? = some .fin
  | .nil, _, _, h, _ => by simp [SL.num] at h
  | .cons s .nil, q, k, _, hR => by
    simp only [SL.frows, AllAt_append, AllAt, (mkS s).1] at hR
    have e : q + SL.flen (.cons s .nil) - 1 = q + s.len := by simp [SL.flen]
    rw [e]
    exact hR.2.1
  | .cons s (.cons s' r), q, k, _, hR => by
    rw [SL.frows, AllAt_append] at hR
    have hR2 := hR.2.2
    rw [(mkS s).1] at hR2
    have := frows_last (.cons s' r) _ _ (by simp [SL.num]) hR2
    have e : q + SL.flen (.cons s (.cons s' r)) - 1 = q + s.len + 1 + SL.flen (.cons s' r) - 1 := congrArg (· - 1) ((Nat.add_assoc q (s.len + 1) _).symm)
    rw [e]
    exact this
theorem tail_starts {ls : SL} {q k : Nat} (B : Threads RS Λ N ls) (hR : AllAt (IsRow RS) q (ls.frows q k)) : ∀ t ∈ (ls.starts q).tail, ∃ j : Nat, t = j + 1 ∧ RS[j]? = some .fin := by
  cases ls with
  | nil => intro t h; cases h
  | cons s r =>
    intro t ht
    simp only [SL.starts, List.tail_cons] at ht
    simp only [SL.frows, AllAt_append, AllAt, (mkS s).1] at hR
    obtain ⟨zz, h2, h3⟩ := hR
    have B2 : ∀ (r : SL) (q k : Nat), 1 ≤ q → RS[q - 1]? = some .fin → AllAt (IsRow RS) q (r.frows q k) → ∀ t ∈ r.starts q, ∃ j : Nat, t = j + 1 ∧ RS[j]? = some .fin := by
      intro r
      induction r using SL.rec (motive_1 := fun zz => True) with
      | nil => intro q k _ _ _ t h; cases h
      | cons s r _ ih =>
        intro q k hq hf hR t ht
        simp only [SL.frows, AllAt_append, AllAt, (mkS s).1] at hR
        simp only [SL.starts, List.mem_cons] at ht
        rcases ht with ht | ht
        · exact ⟨q - 1, by omega, hf⟩
        · exact ih _ (k + s.nsl) (by exact (lin [_, _] [] (.n 1) (.a (.a (.v 0) (.v 1)) (.n 1)) (.refl true) )) (by simpa [IsRow] using hR.2.1) hR.2.2 t ht
      | _ => trivial
    exact B2 r _ (k + s.nsl) (by exact (lin [_, _] [] (.n 1) (.a (.a (.v 0) (.v 1)) (.n 1)) (.refl true) )) (by simpa [IsRow] using h2) h3 t ht
theorem seg_forkN {ls : SL} {h : Nat} (B : Threads RS Λ N ls) (hn : ls.num ≤ 3) (h1 : 1 ≤ ls.num) (hh : h ≤ 900) :
    SegOk RS Λ N h (fun p k => .fork (ls.starts (p + 3)) (-1) :: .join :: .jump (p + ls.flen + 3 : Nat) :: ls.frows (p + 3) k) (ls.flen + 3) (fun x => x :: x :: x :: ls.flabs) := by
  refine ⟨fun p k => by simp [B.rl], fun x => by simp [B.ll], fun x => ⟨_, rfl⟩, fun p k x hx hR hL hN => ?_⟩
  simp only [List.cons_append, AllAt, AllAt_append, B.ll] at hR hL ⊢
  obtain ⟨zz, hj, zz, hR⟩ := hR
  obtain ⟨l0, l1, l2, hL, lE, zz⟩ := hL
  refine ⟨good_fork l0 l1 (by exact (linl [_, _, _] [.lt (.a (.v 0) (.a (.v 1) (.n 3))) (.v 2)] (.a (.v 0) (.n 1)) (.v 2) (.refl true) hN)) (B.st _ k hR hL (by exact (lin [_, _, _] [.lt (.a (.v 0) (.a (.v 1) (.n 3))) (.v 2)] (.a (.a (.v 0) (.n 3)) (.v 1)) (.v 2) (.refl true) hN))) hj (sortI_id (starts_sorted ls _).1) (by rw [starts_num]; exact hn) (fun e => ?_) (tail_starts B hR) (by exact (lin [_, _] [.le (.a (.v 0) (.v 1)) (.n 900)] (.v 0) (.n 900) (.refl true) hx)), good_simple rfl rfl (fun zz => rfl) (ctx_triv (fun zz zz h => (by cases h)) (fun zz zz h => (by cases h)) (fun zz zz h => (by cases h))) rfl l1 l2 (by exact (linl [_, _, _] [.lt (.a (.v 0) (.a (.v 1) (.n 3))) (.v 2)] (.a (.a (.v 0) (.n 1)) (.n 1)) (.v 2) (.refl true) hN)) (by exact (lin [_, _] [.le (.a (.v 0) (.v 1)) (.n 900)] (.v 0) (.n 900) (.refl true) hx)),
    good_jump l2 (lab_eq lE (by exact (Nat.le_antisymm (lin [_, _] [] (.a (.a (.a (.a (.v 0) (.n 1)) (.n 1)) (.n 1)) (.v 1)) (.a (.a (.v 0) (.v 1)) (.n 3)) (.refl true) ) (lin [_, _] [] (.a (.a (.v 0) (.v 1)) (.n 3)) (.a (.a (.a (.a (.v 0) (.n 1)) (.n 1)) (.n 1)) (.v 1)) (.refl true) )))) (by exact (linl [_, _, _] [.lt (.a (.v 0) (.a (.v 1) (.n 3))) (.v 2)] (.a (.a (.v 0) (.v 1)) (.n 3)) (.v 2) (.refl true) hN)) (by exact (lin [_, _] [.le (.a (.v 0) (.v 1)) (.n 900)] (.v 0) (.n 900) (.refl true) hx)), B.ok _ _ hR hL (by exact (lin [_, _, _] [.lt (.a (.v 0) (.a (.v 1) (.n 3))) (.v 2)] (.a (.a (.a (.a (.v 0) (.n 1)) (.n 1)) (.n 1)) (.v 1)) (.v 2) (.refl true) hN))⟩
  have := starts_num ls (p + 3)
  rw [e] at this
  simp at this
  exact (linF [_] [.le (.n 1) (.v 0), .qe (.v 0) (.n 0)]  (.refl true) h1 this)
theorem seg_forkS {ls : SL} {h : Nat} (c : Nat) (B : Threads RS Λ N ls) (hn : ls.num ≤ 3) (h1 : 1 ≤ ls.num) (hh : h ≤ 900) :
    SegOk RS Λ N (h + 1) (fun p k => .enter c (p + ls.flen + 5 : Nat) :: .fork (ls.starts (p + 5)) c :: .join :: .leave c :: .jump (p + ls.flen + 5 : Nat) :: ls.frows (p + 5) k) (ls.flen + 5) (fun x => x :: (x ++ [(c : Int)]) :: (x ++ [(c : Int)]) :: (x ++ [(c : Int)]) :: x :: ls.flabs) := by
  refine ⟨fun p k => by simp [B.rl], fun x => by simp [B.ll], fun x => ⟨_, rfl⟩, fun p k x hx hR hL hN => ?_⟩
  simp only [List.cons_append, AllAt, AllAt_append, B.ll] at hR hL ⊢
  obtain ⟨zz, zz, hj, zz, zz, hR⟩ := hR
  obtain ⟨l0, l1, l2, l3, l4, hL, lE, zz⟩ := hL
  have hlast := frows_last ls _ _ h1 hR
  refine ⟨good_enter (j := p + ls.flen + 4) l0 l1 (lab_eq lE (by exact (Nat.le_antisymm (lin [_, _] [] (.a (.a (.a (.a (.a (.a (.v 0) (.n 1)) (.n 1)) (.n 1)) (.n 1)) (.n 1)) (.v 1)) (.a (.a (.a (.v 0) (.v 1)) (.n 4)) (.n 1)) (.refl true) ) (lin [_, _] [] (.a (.a (.a (.v 0) (.v 1)) (.n 4)) (.n 1)) (.a (.a (.a (.a (.a (.a (.v 0) (.n 1)) (.n 1)) (.n 1)) (.n 1)) (.n 1)) (.v 1)) (.refl true) )))) (by exact (linl [_, _, _] [.lt (.a (.v 0) (.a (.v 1) (.n 5))) (.v 2)] (.a (.v 0) (.n 1)) (.v 2) (.refl true) hN)) (by exact (linl [_, _, _] [.lt (.a (.v 0) (.a (.v 1) (.n 5))) (.v 2)] (.a (.a (.a (.v 0) (.v 1)) (.n 4)) (.n 1)) (.v 2) (.refl true) hN)) ⟨.fin, ?_⟩ (by exact (lin [_, _] [.le (.a (.v 0) (.a (.v 1) (.n 1))) (.n 900)] (.v 0) (.n 900) (.refl true) hx)),
    good_fork l1 l2 (by exact (linl [_, _, _] [.lt (.a (.v 0) (.a (.v 1) (.n 5))) (.v 2)] (.a (.a (.v 0) (.n 1)) (.n 1)) (.v 2) (.refl true) hN)) (B.st _ k hR hL (by exact (lin [_, _, _] [.lt (.a (.v 0) (.a (.v 1) (.n 5))) (.v 2)] (.a (.a (.v 0) (.n 5)) (.v 1)) (.v 2) (.refl true) hN))) hj (sortI_id (starts_sorted ls _).1) (by rw [starts_num]; exact hn) (fun e => ?_) (tail_starts B hR) (by simp; exact (lin [_, _] [.le (.a (.v 0) (.a (.v 1) (.n 1))) (.n 900)] (.v 0) (.n 899) (.refl true) hx)), good_simple rfl rfl (fun zz => rfl) (ctx_triv (fun zz zz h => (by cases h)) (fun zz zz h => (by cases h)) (fun zz zz h => (by cases h))) rfl l2 l3 (by exact (linl [_, _, _] [.lt (.a (.v 0) (.a (.v 1) (.n 5))) (.v 2)] (.a (.a (.a (.v 0) (.n 1)) (.n 1)) (.n 1)) (.v 2) (.refl true) hN)) (by simp; exact (lin [_, _] [.le (.a (.v 0) (.a (.v 1) (.n 1))) (.n 900)] (.v 0) (.n 899) (.refl true) hx)),
    good_leave l3 l4 (by exact (linl [_, _, _] [.lt (.a (.v 0) (.a (.v 1) (.n 5))) (.v 2)] (.a (.a (.a (.a (.v 0) (.n 1)) (.n 1)) (.n 1)) (.n 1)) (.v 2) (.refl true) hN)) (by exact (lin [_, _] [.le (.a (.v 0) (.a (.v 1) (.n 1))) (.n 900)] (.v 0) (.n 900) (.refl true) hx)), good_jump l4 (lab_eq lE (by exact (Nat.le_antisymm (lin [_, _] [] (.a (.a (.a (.a (.a (.a (.v 0) (.n 1)) (.n 1)) (.n 1)) (.n 1)) (.n 1)) (.v 1)) (.a (.a (.v 0) (.v 1)) (.n 5)) (.refl true) ) (lin [_, _] [] (.a (.a (.v 0) (.v 1)) (.n 5)) (.a (.a (.a (.a (.a (.a (.v 0) (.n 1)) (.n 1)) (.n 1)) (.n 1)) (.n 1)) (.v 1)) (.refl true) )))) (by exact (linl [_, _, _] [.lt (.a (.v 0) (.a (.v 1) (.n 5))) (.v 2)] (.a (.a (.v 0) (.v 1)) (.n 5)) (.v 2) (.refl true) hN)) (by exact (lin [_, _] [.le (.a (.v 0) (.a (.v 1) (.n 1))) (.n 900)] (.v 0) (.n 900) (.refl true) hx)), B.ok _ _ hR hL (by exact (lin [_, _, _] [.lt (.a (.v 0) (.a (.v 1) (.n 5))) (.v 2)] (.a (.a (.a (.a (.a (.a (.v 0) (.n 1)) (.n 1)) (.n 1)) (.n 1)) (.n 1)) (.v 1)) (.v 2) (.refl true) hN))⟩
  · have e : p + 5 + ls.flen - 1 = p + ls.flen + 4 := by omega
    rw [← e]
    exact hlast
  · have := starts_num ls (p + 5)
    rw [e] at this
    simp at this
    exact (linF [_] [.le (.n 1) (.v 0), .qe (.v 0) (.n 0)]  (.refl true) h1 this)
end
end
-- P32
section
set_option maxHeartbeats 400000
open PySem
section
variable {RS : List Row} {Λ : Nat → List Int} {N : Nat}
theorem seg_eq {s : S} {h len : Nat} {R : Nat → Nat → List Row} {L : List Int → List (List Int)} (A : SegOk RS Λ N h R len L) (e1 : h ≤ s.hgt) (e2 : ∀ p k, s.rows p k = R p k) (e3 : s.len = len) (e4 : ∀ x, s.labs x = L x) : SegOk RS Λ N s.hgt s.rows s.len s.labs := by
  have e2 : s.rows = R := funext fun p => funext fun k => e2 p k
  have e4 : s.labs = L := funext e4
  rw [e2, e3, e4]
  exact A.mono e1
theorem seg_save (v : Option Int) : SegOk RS Λ N 0 (fun zz k => saveR v k) (vLen v) (vLab v) := by
  cases v with
  | none => exact seg_none
  | some e => exact seg_one (r := fun zz k => .save k e) (fun zz zz => rfl) (fun zz zz => rfl) (fun zz zz zz => rfl) (fun zz zz => ctx_triv (fun zz zz h => (by cases h)) (fun zz zz h => (by cases h)) (fun zz zz h => (by cases h))) (fun zz zz => rfl)
mutual
theorem seg : ∀ s : S, s.thin → s.hgt ≤ 900 → SegOk RS Λ N s.hgt s.rows s.len s.labs
  | .none, _, _ => seg_eq seg_none (by exact (lin [_] [] (.n 0) (.v 0) (.refl true) )) (fun p k => by rw [S.rows]) (by rw [S.len]) (fun x => by rw [S.labs])
  | .pl q, _, _ => seg_eq (seg_pl q) (by exact (lin [_] [] (.n 0) (.v 0) (.refl true) )) (fun p k => by rw [S.rows]) (by rw [S.len]) (fun x => by rw [S.labs])
  | .ite e a b, ht, hh => by
    simp only [S.thin] at ht
    simp only [S.hgt] at hh
    have A := seg a ht.1 (by exact (lin [_, _] [.le (.v 0) (.v 1), .le (.a (.v 1) (.n 1)) (.n 900)] (.v 0) (.n 900) (.refl true) (Nat.le_max_left _ _) hh))
    have B := seg b ht.2 (by exact (lin [_, _] [.le (.v 0) (.v 1), .le (.a (.v 1) (.n 1)) (.n 900)] (.v 0) (.n 900) (.refl true) (Nat.le_max_right _ _) hh))
    by_cases hb : b.isNone = true
    · exact seg_eq (seg_if1 e A) (by simp only [S.hgt]; exact (lin [_, _] [.le (.v 0) (.v 1)] (.v 0) (.a (.v 1) (.n 1)) (.refl true) (Nat.le_max_left _ _))) (fun p k => by simp only [S.rows, hb, if_true]) (by simp only [S.len, hb, if_true]) (fun x => by simp only [S.labs, hb, if_true])
    · have hb : b.isNone = false := by simpa using hb
      exact seg_eq (seg_if2 (h := max a.hgt b.hgt) (na := a.nsl) e (A.mono (by exact (Nat.le_max_left _ _))) (B.mono (by exact (Nat.le_max_right _ _)))) (by simp only [S.hgt]; exact (lin [_] [] (.v 0) (.a (.v 0) (.n 1)) (.refl true) )) (fun p k => by simp only [S.rows, hb]; rfl) (by simp only [S.len, hb]; rfl) (fun x => by simp only [S.labs, hb]; rfl)
  | .caseA v a c, ht, hh => by
    simp only [S.thin] at ht
    simp only [S.hgt] at hh
    have A := seg a ht.1 (by exact (lin [_, _] [.le (.v 0) (.v 1), .le (.a (.v 1) (.n 1)) (.n 900)] (.v 0) (.n 900) (.refl true) (Nat.le_max_left _ _) hh))
    have C := seg c ht.2 (by exact (lin [_, _] [.le (.v 0) (.v 1), .le (.a (.v 1) (.n 1)) (.n 900)] (.v 0) (.n 900) (.refl true) (Nat.le_max_right _ _) hh))
    exact seg_eq ((seg_save v).seqK (h := max a.hgt c.hgt) (n1 := vLen v) (fun k0 => seg_case3 (h := max a.hgt c.hgt) v k0 (nd := 0) (na := a.nsl) (seg_none.mono (by exact (lin [_] [] (.n 0) (.v 0) (.refl true) ))) (A.mono (by exact (Nat.le_max_left _ _))) (C.mono (by exact (Nat.le_max_right _ _)))) (by exact (lin [_] [] (.n 0) (.v 0) (.refl true) )) (by exact (Nat.le_refl _))) (by simp only [S.hgt]; exact (lin [_] [] (.v 0) (.a (.v 0) (.n 1)) (.refl true) )) (fun p k => by simp only [S.rows]) (by simp only [S.len]; exact (Nat.le_antisymm (lin [_, _, _] [] (.a (.v 0) (.a (.a (.v 1) (.v 2)) (.n 6))) (.a (.v 0) (.a (.a (.a (.n 0) (.v 1)) (.v 2)) (.n 6))) (.refl true) ) (lin [_, _, _] [] (.a (.v 0) (.a (.a (.a (.n 0) (.v 1)) (.v 2)) (.n 6))) (.a (.v 0) (.a (.a (.v 1) (.v 2)) (.n 6))) (.refl true) ))) (fun x => by simp only [S.labs])
  | .caseB v d a c, ht, hh => by
    simp only [S.thin] at ht
    simp only [S.hgt] at hh
    have D := seg d ht.1 (by exact (lin [_, _] [.le (.v 0) (.v 1), .le (.a (.v 1) (.n 1)) (.n 900)] (.v 0) (.n 900) (.refl true) (Nat.le_max_left _ _) hh))
    have hM : max a.hgt c.hgt ≤ max d.hgt (max a.hgt c.hgt) := Nat.le_max_right _ _
    have hA : a.hgt ≤ max d.hgt (max a.hgt c.hgt) := Nat.le_trans (Nat.le_max_left _ _) hM
    have hC : c.hgt ≤ max d.hgt (max a.hgt c.hgt) := Nat.le_trans (Nat.le_max_right _ _) hM
    have A := seg a ht.2.1 (by exact (lin [_, _] [.le (.v 0) (.v 1), .le (.a (.v 1) (.n 1)) (.n 900)] (.v 0) (.n 900) (.refl true) hA hh))
    have C := seg c ht.2.2 (by exact (lin [_, _] [.le (.v 0) (.v 1), .le (.a (.v 1) (.n 1)) (.n 900)] (.v 0) (.n 900) (.refl true) hC hh))
    exact seg_eq ((seg_save v).seqK (h := max d.hgt (max a.hgt c.hgt)) (n1 := vLen v) (fun k0 => seg_case3 (h := max d.hgt (max a.hgt c.hgt)) v k0 (nd := d.nsl) (na := a.nsl) (D.mono (by exact (Nat.le_max_left _ _))) (A.mono (by exact hA)) (C.mono (by exact hC))) (by exact (lin [_] [] (.n 0) (.v 0) (.refl true) )) (by exact (Nat.le_refl _))) (by simp only [S.hgt]; exact (lin [_] [] (.v 0) (.a (.v 0) (.n 1)) (.refl true) )) (fun p k => by simp only [S.rows]) (by simp only [S.len]) (fun x => by simp only [S.labs])
  | .caseC v a d, ht, hh => by
    simp only [S.thin] at ht
    simp only [S.hgt] at hh
    have A := seg a ht.1 (by exact (lin [_, _] [.le (.v 0) (.v 1), .le (.a (.v 1) (.n 1)) (.n 900)] (.v 0) (.n 900) (.refl true) (Nat.le_max_left _ _) hh))
    have D := seg d ht.2 (by exact (lin [_, _] [.le (.v 0) (.v 1), .le (.a (.v 1) (.n 1)) (.n 900)] (.v 0) (.n 900) (.refl true) (Nat.le_max_right _ _) hh))
    exact seg_eq ((seg_save v).seqK (h := max a.hgt d.hgt) (n1 := vLen v) (fun k0 => seg_case2 (h := max a.hgt d.hgt) v k0 (nd := d.nsl) (D.mono (by exact (Nat.le_max_right _ _))) (A.mono (by exact (Nat.le_max_left _ _)))) (by exact (lin [_] [] (.n 0) (.v 0) (.refl true) )) (by exact (Nat.le_refl _))) (by simp only [S.hgt]; exact (lin [_] [] (.v 0) (.a (.v 0) (.n 1)) (.refl true) )) (fun p k => by simp only [S.rows]) (by simp only [S.len]) (fun x => by simp only [S.labs])
  | .for_ q e t b, ht, hh => by
    simp only [S.thin] at ht
    simp only [S.hgt] at hh
    have B := seg b ht (by exact (lin [_] [.le (.a (.v 0) (.n 1)) (.n 900)] (.v 0) (.n 900) (.refl true) hh))
    exact seg_eq ((seg_pl q).seq (h := b.hgt) (n1 := q.nsl) (seg_loop (h := b.hgt) (nb := b.nsl) e B ((seg_pl t).mono (by exact (lin [_] [] (.n 0) (.v 0) (.refl true) )))) (by exact (lin [_] [] (.n 0) (.v 0) (.refl true) )) (by exact (Nat.le_refl _))) (by simp only [S.hgt]; exact (lin [_] [] (.v 0) (.a (.v 0) (.n 1)) (.refl true) )) (fun p k => by simp only [S.rows]) (by simp only [S.len]; exact (Nat.le_antisymm (lin [_, _, _] [] (.a (.a (.a (.v 0) (.v 1)) (.v 2)) (.n 2)) (.a (.v 0) (.a (.a (.v 1) (.v 2)) (.n 2))) (.refl true) ) (lin [_, _, _] [] (.a (.v 0) (.a (.a (.v 1) (.v 2)) (.n 2))) (.a (.a (.a (.v 0) (.v 1)) (.v 2)) (.n 2)) (.refl true) ))) (fun x => by simp only [S.labs])
  | .while_ e b, ht, hh => by
    simp only [S.thin] at ht
    simp only [S.hgt] at hh
    have B := seg b ht (by exact (lin [_] [.le (.a (.v 0) (.n 1)) (.n 900)] (.v 0) (.n 900) (.refl true) hh))
    exact seg_eq (seg_loop (nb := b.nsl) e B (seg_none.mono (by exact (lin [_] [] (.n 0) (.v 0) (.refl true) )))) (by simp only [S.hgt]; exact (lin [_] [] (.v 0) (.a (.v 0) (.n 1)) (.refl true) )) (fun p k => by simp only [S.rows]) (by simp only [S.len]) (fun x => by simp only [S.labs])
  | .repeat_ e b, ht, hh => by
    simp only [S.thin] at ht
    simp only [S.hgt] at hh
    exact seg_eq (seg_repeat e (seg b ht (by exact (lin [_] [.le (.a (.v 0) (.n 1)) (.n 900)] (.v 0) (.n 900) (.refl true) hh)))) (by simp only [S.hgt]; exact (lin [_] [] (.v 0) (.a (.v 0) (.n 1)) (.refl true) )) (fun p k => by simp only [S.rows]) (by simp only [S.len]) (fun x => by simp only [S.labs])
  | .forever b, ht, hh => by
    simp only [S.thin] at ht
    simp only [S.hgt] at hh
    exact seg_eq (seg_forever (seg b ht (by exact (lin [_] [.le (.a (.v 0) (.n 1)) (.n 900)] (.v 0) (.n 900) (.refl true) hh)))) (by simp only [S.hgt]; exact (lin [_] [] (.v 0) (.a (.v 0) (.n 1)) (.refl true) )) (fun p k => by simp only [S.rows]) (by simp only [S.len]) (fun x => by simp only [S.labs])
  | .block l none, ht, hh => by
    simp only [S.thin] at ht
    simp only [S.hgt] at hh
    exact seg_eq (segL l ht (by exact (lin [_] [.le (.a (.v 0) (.n 1)) (.n 900)] (.v 0) (.n 900) (.refl true) hh))) (by simp only [S.hgt]; exact (lin [_] [] (.v 0) (.a (.v 0) (.n 1)) (.refl true) )) (fun p k => by simp [S.rows, scR, scL, scLen]) (by simp only [S.len, scLen]; exact (Nat.le_antisymm (lin [_] [] (.a (.v 0) (.n 0)) (.v 0) (.refl true) ) (lin [_] [] (.v 0) (.a (.v 0) (.n 0)) (.refl true) ))) (fun x => by simp only [S.labs])
  | .block l (some c), ht, hh => by
    simp only [S.thin] at ht
    simp only [S.hgt] at hh
    exact seg_eq (seg_blockS c (segL l ht (by exact (lin [_] [.le (.a (.v 0) (.n 1)) (.n 900)] (.v 0) (.n 900) (.refl true) hh)))) (by simp only [S.hgt]; exact (Nat.le_refl _)) (fun p k => by simp [S.rows, scR, scL, scLen]) (by simp only [S.len, scLen]) (fun x => by simp only [S.labs])
  | .fork l none, ht, hh => by
    simp only [S.thin] at ht
    simp only [S.hgt] at hh
    exact seg_eq (seg_forkN (h := l.hgt + 1) (segF l ht.1 (by exact (lin [_] [.le (.a (.v 0) (.n 1)) (.n 900)] (.v 0) (.n 900) (.refl true) hh))) ht.2.1 ht.2.2 hh) (by simp only [S.hgt]; exact (Nat.le_refl _)) (fun p k => by simp [S.rows, scR, scL, scLen, scI]) (by simp only [S.len, scLen]) (fun x => by simp only [S.labs])
  | .fork l (some c), ht, hh => by
    simp only [S.thin] at ht
    simp only [S.hgt] at hh
    exact seg_eq (seg_forkS (h := l.hgt) c (segF l ht.1 (by exact (lin [_] [.le (.a (.v 0) (.n 1)) (.n 900)] (.v 0) (.n 900) (.refl true) hh))) ht.2.1 ht.2.2 (by exact (lin [_] [.le (.a (.v 0) (.n 1)) (.n 900)] (.v 0) (.n 900) (.refl true) hh))) (by simp only [S.hgt]; exact (Nat.le_refl _)) (fun p k => by simp [S.rows, scR, scL, scLen, scI]; omega) (by simp only [S.len, scLen]) (fun x => by simp only [S.labs])
  | .delay e b, ht, hh => by
    simp only [S.thin] at ht
    simp only [S.hgt] at hh
    exact seg_eq (seg_head (r := .delay e) rfl rfl (fun zz => rfl) (ctx_triv (fun zz zz h => (by cases h)) (fun zz zz h => (by cases h)) (fun zz zz h => (by cases h))) rfl (seg b ht (by exact (lin [_] [.le (.a (.v 0) (.n 1)) (.n 900)] (.v 0) (.n 900) (.refl true) hh)))) (by simp only [S.hgt]; exact (lin [_] [] (.v 0) (.a (.v 0) (.n 1)) (.refl true) )) (fun p k => by simp only [S.rows]) (by simp only [S.len]) (fun x => by simp only [S.labs])
  | .wait e b, ht, hh => by
    simp only [S.thin] at ht
    simp only [S.hgt] at hh
    exact seg_eq (seg_head (r := .waitfor e) rfl rfl (fun zz => rfl) (ctx_triv (fun zz zz h => (by cases h)) (fun zz zz h => (by cases h)) (fun zz zz h => (by cases h))) rfl (seg b ht (by exact (lin [_] [.le (.a (.v 0) (.n 1)) (.n 900)] (.v 0) (.n 900) (.refl true) hh)))) (by simp only [S.hgt]; exact (lin [_] [] (.v 0) (.a (.v 0) (.n 1)) (.refl true) )) (fun p k => by simp only [S.rows]) (by simp only [S.len]) (fun x => by simp only [S.labs])
  | .await e b, ht, hh => by
    simp only [S.thin] at ht
    simp only [S.hgt] at hh
    exact seg_eq (seg_head (r := .awaitA e) rfl rfl (fun zz => rfl) (ctx_triv (fun zz zz h => (by cases h)) (fun zz zz h => (by cases h)) (fun zz zz h => (by cases h))) rfl (seg b ht (by exact (lin [_] [.le (.a (.v 0) (.n 1)) (.n 900)] (.v 0) (.n 900) (.refl true) hh)))) (by simp only [S.hgt]; exact (lin [_] [] (.v 0) (.a (.v 0) (.n 1)) (.refl true) )) (fun p k => by simp only [S.rows]) (by simp only [S.len]) (fun x => by simp only [S.labs])
theorem segL : ∀ l : SL, l.thin → l.hgt ≤ 900 → SegOk RS Λ N l.hgt l.rows l.len l.labs
  | .nil, _, _ => by
    have e1 : SL.rows .nil = fun zz zz => [] := funext fun p => funext fun k => by rw [SL.rows]
    have e2 : SL.labs .nil = fun zz => [] := funext fun x => by rw [SL.labs]
    rw [e1, e2, SL.len]
    exact seg_none.mono (by exact (lin [_] [] (.n 0) (.v 0) (.refl true) ))
  | .cons s r, ht, hh => by
    simp only [SL.thin] at ht
    simp only [SL.hgt] at hh
    have A := seg s ht.1 (by exact (Nat.le_trans (Nat.le_max_left _ _) hh))
    have B := segL r ht.2 (by exact (Nat.le_trans (Nat.le_max_right _ _) hh))
    have e1 : SL.rows (.cons s r) = fun p k => s.rows p k ++ r.rows (p + s.len) (k + s.nsl) := funext fun p => funext fun k => by rw [SL.rows]
    have e2 : SL.labs (.cons s r) = fun x => s.labs x ++ r.labs x := funext fun x => by rw [SL.labs]
    rw [e1, e2, SL.len]
    exact A.seq B (by simp only [SL.hgt]; exact (Nat.le_max_left _ _)) (by simp only [SL.hgt]; exact (Nat.le_max_right _ _))
theorem segF : ∀ l : SL, l.thin → l.hgt ≤ 900 → Threads RS Λ N l
  | .nil, _, _ => threads_nil
  | .cons s r, ht, hh => by
    simp only [SL.thin] at ht
    simp only [SL.hgt] at hh
    exact threads_cons (h := s.hgt) (by exact (Nat.le_trans (Nat.le_max_left _ _) hh)) (seg s ht.1 (by exact (Nat.le_trans (Nat.le_max_left _ _) hh))) (segF r ht.2 (by exact (Nat.le_trans (Nat.le_max_right _ _) hh)))
end
end
end
-- P33
section
set_option maxHeartbeats 400000
open PySem
@[simp] theorem w_seen_unless {n t} : Row.seen? (.unless n t) = none := rfl
@[simp] theorem w_seen_jump {t} : Row.seen? (.jump t) = none := rfl
@[simp] theorem w_seen_matS {s lab t} : Row.seen? (.matS s lab t) = none := rfl
@[simp] theorem w_seen_matC {lab t} : Row.seen? (.matC lab t) = none := rfl
@[simp] theorem w_seen_times {s n} : Row.seen? (.times s n) = none := rfl
@[simp] theorem w_seen_again {s t} : Row.seen? (.again s t) = none := rfl
@[simp] theorem w_seen_enter {c t} : Row.seen? (.enter c t) = none := rfl
@[simp] theorem w_seen_leave {c} : Row.seen? (.leave c) = none := rfl
@[simp] theorem w_seen_fork {ts c} : Row.seen? (.fork ts c) = none := rfl
@[simp] theorem w_seen_join : Row.seen? (.join) = none := rfl
@[simp] theorem w_seen_fin : Row.seen? (.fin) = none := rfl
@[simp] theorem w_seen_delay {n} : Row.seen? (.delay n) = some (Row.delay n).av := rfl
@[simp] theorem w_seen_awaitA {n} : Row.seen? (.awaitA n) = some (Row.awaitA n).av := rfl
@[simp] theorem w_seen_waitfor {n} : Row.seen? (.waitfor n) = some (.tup [.str 46, sig n]) := rfl
@[simp] theorem w_seen_save {s n} : Row.seen? (.save s n) = some (.tup [.str 47, sig n]) := rfl
@[simp] theorem w_kept_unless {n t} : Row.kept? (.unless n t) = none := rfl
@[simp] theorem w_kept_jump {t} : Row.kept? (.jump t) = none := rfl
@[simp] theorem w_kept_matS {s lab t} : Row.kept? (.matS s lab t) = none := rfl
@[simp] theorem w_kept_matC {lab t} : Row.kept? (.matC lab t) = none := rfl
@[simp] theorem w_kept_times {s n} : Row.kept? (.times s n) = some s := rfl
@[simp] theorem w_kept_again {s t} : Row.kept? (.again s t) = none := rfl
@[simp] theorem w_kept_enter {c t} : Row.kept? (.enter c t) = none := rfl
@[simp] theorem w_kept_leave {c} : Row.kept? (.leave c) = none := rfl
@[simp] theorem w_kept_fork {ts c} : Row.kept? (.fork ts c) = none := rfl
@[simp] theorem w_kept_join : Row.kept? (.join) = none := rfl
@[simp] theorem w_kept_fin : Row.kept? (.fin) = none := rfl
@[simp] theorem w_kept_delay {n} : Row.kept? (.delay n) = none := rfl
@[simp] theorem w_kept_awaitA {n} : Row.kept? (.awaitA n) = none := rfl
@[simp] theorem w_kept_waitfor {n} : Row.kept? (.waitfor n) = none := rfl
@[simp] theorem w_kept_save {s n} : Row.kept? (.save s n) = some s := rfl
@[simp] theorem w_kept_setE {k n} : Row.kept? (.setE k n) = none := rfl
@[simp] theorem w_kept_setL {k s} : Row.kept? (.setL k s) = none := rfl
@[simp] theorem w_kept_awaitP {n} : Row.kept? (.awaitP n) = none := rfl
@[simp] theorem w_kept_nba0 {n} : Row.kept? (.nba0 n) = none := rfl
@[simp] theorem w_kept_nba1 {n d} : Row.kept? (.nba1 n d) = none := rfl
@[simp] theorem w_kept_trig {b n} : Row.kept? (.trig b n) = none := rfl
@[simp] theorem w_kept_call {n} : Row.kept? (.call n) = none := rfl
@[simp] theorem w_kept_sys {n} : Row.kept? (.sys n) = none := rfl
@[simp] theorem w_fork_unless {n t} : Row.fork? (.unless n t) = none := rfl
@[simp] theorem w_fork_jump {t} : Row.fork? (.jump t) = none := rfl
@[simp] theorem w_fork_matS {s lab t} : Row.fork? (.matS s lab t) = none := rfl
@[simp] theorem w_fork_matC {lab t} : Row.fork? (.matC lab t) = none := rfl
@[simp] theorem w_fork_times {s n} : Row.fork? (.times s n) = none := rfl
@[simp] theorem w_fork_again {s t} : Row.fork? (.again s t) = none := rfl
@[simp] theorem w_fork_enter {c t} : Row.fork? (.enter c t) = none := rfl
@[simp] theorem w_fork_leave {c} : Row.fork? (.leave c) = none := rfl
@[simp] theorem w_fork_fork {ts c} : Row.fork? (.fork ts c) = some ts.length := rfl
@[simp] theorem w_fork_join : Row.fork? (.join) = none := rfl
@[simp] theorem w_fork_fin : Row.fork? (.fin) = none := rfl
@[simp] theorem w_fork_delay {n} : Row.fork? (.delay n) = none := rfl
@[simp] theorem w_fork_awaitA {n} : Row.fork? (.awaitA n) = none := rfl
@[simp] theorem w_fork_waitfor {n} : Row.fork? (.waitfor n) = none := rfl
@[simp] theorem w_fork_save {s n} : Row.fork? (.save s n) = none := rfl
@[simp] theorem w_left_unless {n t} : Row.left? (.unless n t) = none := rfl
@[simp] theorem w_left_jump {t} : Row.left? (.jump t) = none := rfl
@[simp] theorem w_left_matS {s lab t} : Row.left? (.matS s lab t) = none := rfl
@[simp] theorem w_left_matC {lab t} : Row.left? (.matC lab t) = none := rfl
@[simp] theorem w_left_times {s n} : Row.left? (.times s n) = none := rfl
@[simp] theorem w_left_again {s t} : Row.left? (.again s t) = none := rfl
@[simp] theorem w_left_enter {c t} : Row.left? (.enter c t) = none := rfl
@[simp] theorem w_left_leave {c} : Row.left? (.leave c) = some c := rfl
@[simp] theorem w_left_fork {ts c} : Row.left? (.fork ts c) = none := rfl
@[simp] theorem w_left_join : Row.left? (.join) = none := rfl
@[simp] theorem w_left_fin : Row.left? (.fin) = none := rfl
@[simp] theorem w_left_delay {n} : Row.left? (.delay n) = none := rfl
@[simp] theorem w_left_awaitA {n} : Row.left? (.awaitA n) = none := rfl
@[simp] theorem w_left_waitfor {n} : Row.left? (.waitfor n) = none := rfl
@[simp] theorem w_left_save {s n} : Row.left? (.save s n) = none := rfl
theorem fm_pl_seen (q : Pl) (p k : Nat) : (q.rows p k).filterMap Row.seen? = q.acts := by cases q <;> first | rfl | (rename_i b _; cases b <;> rfl)
theorem seen_save (v : Option Int) (k : Nat) : (saveR v k).filterMap Row.seen? = vActs v := by cases v <;> simp [saveR, vActs]
theorem seen_mat (v : Option Int) (k : Nat) (lab : Int) (t : Nat) : (matR v k lab t).seen? = none := by cases v <;> rfl
theorem seen_scR (c : Option Nat) (t : Nat) : (scR c t).filterMap Row.seen? = [] := by cases c <;> simp [scR]
theorem seen_scL (c : Option Nat) : (scL c).filterMap Row.seen? = [] := by cases c <;> simp [scL]
mutual
theorem seen_S : ∀ (s : S) (p k : Nat), (s.rows p k).filterMap Row.seen? = s.acts
  | .none, p, k => by simp [-Pl.rows, -Pl.acts, -Pl.nsl, -Pl.len, List.filterMap_cons, S.rows, S.acts]
  | .pl q, p, k => by simp [-Pl.rows, -Pl.acts, -Pl.nsl, -Pl.len, List.filterMap_cons, S.rows, S.acts, fm_pl_seen]
  | .ite e a b, p, k => by
    by_cases hb : b.isNone = true
    · have := S.isNone_eq hb
      subst this
      simp [-Pl.rows, -Pl.acts, -Pl.nsl, -Pl.len, List.filterMap_cons, S.rows, S.acts, seen_S a, S.isNone]
    · have hb : b.isNone = false := by simpa using hb
      simp [-Pl.rows, -Pl.acts, -Pl.nsl, -Pl.len, List.filterMap_cons, S.rows, S.acts, hb, seen_S a, seen_S b]
  | .caseA v a c, p, k => by cases v <;> simp [-Pl.rows, -Pl.acts, -Pl.nsl, -Pl.len, List.filterMap_cons, S.rows, S.acts, case3, seen_save, matR, seen_S a, seen_S c]
  | .caseB v d a c, p, k => by cases v <;> simp [-Pl.rows, -Pl.acts, -Pl.nsl, -Pl.len, List.filterMap_cons, S.rows, S.acts, case3, seen_save, matR, seen_S a, seen_S c, seen_S d]
  | .caseC v a d, p, k => by cases v <;> simp [-Pl.rows, -Pl.acts, -Pl.nsl, -Pl.len, List.filterMap_cons, S.rows, S.acts, case2, seen_save, matR, seen_S a, seen_S d]
  | .for_ q e t b, p, k => by simp [-Pl.rows, -Pl.acts, -Pl.nsl, -Pl.len, List.filterMap_cons, S.rows, S.acts, loopR, fm_pl_seen, seen_S b]
  | .while_ e b, p, k => by simp [-Pl.rows, -Pl.acts, -Pl.nsl, -Pl.len, List.filterMap_cons, S.rows, S.acts, loopR, seen_S b]
  | .repeat_ e b, p, k => by simp [-Pl.rows, -Pl.acts, -Pl.nsl, -Pl.len, List.filterMap_cons, S.rows, S.acts, seen_S b]
  | .forever b, p, k => by simp [-Pl.rows, -Pl.acts, -Pl.nsl, -Pl.len, List.filterMap_cons, S.rows, S.acts, seen_S b]
  | .block l c, p, k => by simp [-Pl.rows, -Pl.acts, -Pl.nsl, -Pl.len, List.filterMap_cons, S.rows, S.acts, seen_scR, seen_scL, seen_L l]
  | .fork l c, p, k => by simp [-Pl.rows, -Pl.acts, -Pl.nsl, -Pl.len, List.filterMap_cons, S.rows, S.acts, seen_scR, seen_scL, seen_F l]
  | .delay e b, p, k => by simp [-Pl.rows, -Pl.acts, -Pl.nsl, -Pl.len, List.filterMap_cons, S.rows, S.acts, seen_S b]
  | .wait e b, p, k => by simp [-Pl.rows, -Pl.acts, -Pl.nsl, -Pl.len, List.filterMap_cons, S.rows, S.acts, seen_S b]
  | .await e b, p, k => by simp [-Pl.rows, -Pl.acts, -Pl.nsl, -Pl.len, List.filterMap_cons, S.rows, S.acts, seen_S b]
theorem seen_L : ∀ (l : SL) (p k : Nat), (l.rows p k).filterMap Row.seen? = l.acts
  | .nil, _, _ => by simp [-Pl.rows, -Pl.acts, -Pl.nsl, -Pl.len, List.filterMap_cons, SL.rows, SL.acts]
  | .cons s r, p, k => by simp [-Pl.rows, -Pl.acts, -Pl.nsl, -Pl.len, List.filterMap_cons, SL.rows, SL.acts, seen_S s, seen_L r]
theorem seen_F : ∀ (l : SL) (p k : Nat), (l.frows p k).filterMap Row.seen? = l.acts
  | .nil, _, _ => by simp [-Pl.rows, -Pl.acts, -Pl.nsl, -Pl.len, List.filterMap_cons, SL.frows, SL.acts]
  | .cons s r, p, k => by simp [-Pl.rows, -Pl.acts, -Pl.nsl, -Pl.len, List.filterMap_cons, SL.frows, SL.acts, seen_S s, seen_F r]
end
noncomputable def slots (k n : Nat) : List Int := (List.range n).map fun (j : Nat) => ((k : Int) + (j : Int))
theorem slots_add (k a b : Nat) : slots k (a + b) = slots k a ++ slots (k + a) b := by
  unfold slots
  rw [List.range_add, List.map_append, List.map_map]
  congr 1
  refine List.map_congr_left fun j zz => ?_
  simp
  omega
theorem slots_zero (k : Nat) : slots k 0 = [] := rfl
theorem slots_one (k : Nat) : slots k 1 = [(k : Int)] := by simp [slots]
theorem kept_pl (q : Pl) (p k : Nat) : (q.rows p k).filterMap Row.kept? = slots k q.nsl := by cases q <;> simp [slots_zero, slots_one]
theorem kept_save (v : Option Int) (k : Nat) : (saveR v k).filterMap Row.kept? = slots k (vLen v) := by cases v <;> simp [saveR, vLen, slots_zero, slots_one]
theorem kept_mat (v : Option Int) (k : Nat) (lab : Int) (t : Nat) : (matR v k lab t).kept? = none := by cases v <;> rfl
theorem kept_scR (c : Option Nat) (t : Nat) : (scR c t).filterMap Row.kept? = [] := by cases c <;> simp [scR]
theorem kept_scL (c : Option Nat) : (scL c).filterMap Row.kept? = [] := by cases c <;> simp [scL]
mutual
theorem kept_S : ∀ (s : S) (p k : Nat), (s.rows p k).filterMap Row.kept? = slots k s.nsl
  | .none, p, k => by simp [-Pl.rows, -Pl.acts, -Pl.nsl, -Pl.len, List.filterMap_cons, S.rows, S.nsl, slots_zero]
  | .pl q, p, k => by simp [-Pl.rows, -Pl.acts, -Pl.nsl, -Pl.len, List.filterMap_cons, S.rows, S.nsl, kept_pl]
  | .ite e a b, p, k => by
    by_cases hb : b.isNone = true
    · have := S.isNone_eq hb
      subst this
      simp [-Pl.rows, -Pl.acts, -Pl.nsl, -Pl.len, List.filterMap_cons, S.rows, S.nsl, kept_S a, S.isNone]
    · have hb : b.isNone = false := by simpa using hb
      simp [-Pl.rows, -Pl.acts, -Pl.nsl, -Pl.len, List.filterMap_cons, S.rows, S.nsl, hb, kept_S a, kept_S b, slots_add]
  | .caseA v a c, p, k => by cases v <;> simp [-Pl.rows, -Pl.acts, -Pl.nsl, -Pl.len, List.filterMap_cons, S.rows, S.nsl, case3, kept_save, matR, kept_S a, kept_S c, slots_add]
  | .caseB v d a c, p, k => by cases v <;> simp [-Pl.rows, -Pl.acts, -Pl.nsl, -Pl.len, List.filterMap_cons, S.rows, S.nsl, case3, kept_save, matR, kept_S a, kept_S c, kept_S d, slots_add, Nat.add_assoc]
  | .caseC v a d, p, k => by cases v <;> simp [-Pl.rows, -Pl.acts, -Pl.nsl, -Pl.len, List.filterMap_cons, S.rows, S.nsl, case2, kept_save, matR, kept_S a, kept_S d, slots_add]
  | .for_ q e t b, p, k => by simp [-Pl.rows, -Pl.acts, -Pl.nsl, -Pl.len, List.filterMap_cons, S.rows, S.nsl, loopR, kept_pl, kept_S b, slots_add, Nat.add_assoc]
  | .while_ e b, p, k => by simp [-Pl.rows, -Pl.acts, -Pl.nsl, -Pl.len, List.filterMap_cons, S.rows, S.nsl, loopR, kept_S b]
  | .repeat_ e b, p, k => by
    rw [S.nsl, Nat.add_comm, slots_add, slots_one]
    simp [-Pl.rows, -Pl.acts, -Pl.nsl, -Pl.len, List.filterMap_cons, S.rows, kept_S b]
  | .forever b, p, k => by simp [-Pl.rows, -Pl.acts, -Pl.nsl, -Pl.len, List.filterMap_cons, S.rows, S.nsl, kept_S b]
  | .block l c, p, k => by simp [-Pl.rows, -Pl.acts, -Pl.nsl, -Pl.len, List.filterMap_cons, S.rows, S.nsl, kept_scR, kept_scL, kept_L l]
  | .fork l c, p, k => by simp [-Pl.rows, -Pl.acts, -Pl.nsl, -Pl.len, List.filterMap_cons, S.rows, S.nsl, kept_scR, kept_scL, kept_F l]
  | .delay e b, p, k => by simp [-Pl.rows, -Pl.acts, -Pl.nsl, -Pl.len, List.filterMap_cons, S.rows, S.nsl, kept_S b]
  | .wait e b, p, k => by simp [-Pl.rows, -Pl.acts, -Pl.nsl, -Pl.len, List.filterMap_cons, S.rows, S.nsl, kept_S b]
  | .await e b, p, k => by simp [-Pl.rows, -Pl.acts, -Pl.nsl, -Pl.len, List.filterMap_cons, S.rows, S.nsl, kept_S b]
theorem kept_L : ∀ (l : SL) (p k : Nat), (l.rows p k).filterMap Row.kept? = slots k l.nsl
  | .nil, _, _ => by simp [-Pl.rows, -Pl.acts, -Pl.nsl, -Pl.len, List.filterMap_cons, SL.rows, SL.nsl, slots_zero]
  | .cons s r, p, k => by simp [-Pl.rows, -Pl.acts, -Pl.nsl, -Pl.len, List.filterMap_cons, SL.rows, SL.nsl, kept_S s, kept_L r, slots_add]
theorem kept_F : ∀ (l : SL) (p k : Nat), (l.frows p k).filterMap Row.kept? = slots k l.nsl
  | .nil, _, _ => by simp [-Pl.rows, -Pl.acts, -Pl.nsl, -Pl.len, List.filterMap_cons, SL.frows, SL.nsl, slots_zero]
  | .cons s r, p, k => by simp [-Pl.rows, -Pl.acts, -Pl.nsl, -Pl.len, List.filterMap_cons, SL.frows, SL.nsl, kept_S s, kept_F r, slots_add]
end
theorem fk_pl (q : Pl) (p k : Nat) : (q.rows p k).filterMap Row.fork? = [] := by cases q <;> first | rfl | (rename_i b _; cases b <;> rfl)
theorem fk_save (v : Option Int) (k : Nat) : (saveR v k).filterMap Row.fork? = [] := by cases v <;> simp [saveR]
theorem fk_mat (v : Option Int) (k : Nat) (lab : Int) (t : Nat) : (matR v k lab t).fork? = none := by cases v <;> rfl
theorem fk_scR (c : Option Nat) (t : Nat) : (scR c t).filterMap Row.fork? = [] := by cases c <;> simp [scR]
theorem fk_scL (c : Option Nat) : (scL c).filterMap Row.fork? = [] := by cases c <;> simp [scL]
mutual
theorem fk_S : ∀ (s : S) (p k : Nat), (s.rows p k).filterMap Row.fork? = s.fk
  | .none, p, k => by simp [-Pl.rows, -Pl.acts, -Pl.nsl, -Pl.len, List.filterMap_cons, S.rows, S.fk]
  | .pl q, p, k => by simp [-Pl.rows, -Pl.acts, -Pl.nsl, -Pl.len, List.filterMap_cons, S.rows, S.fk, fk_pl]
  | .ite e a b, p, k => by
    by_cases hb : b.isNone = true
    · have := S.isNone_eq hb
      subst this
      simp [-Pl.rows, -Pl.acts, -Pl.nsl, -Pl.len, List.filterMap_cons, S.rows, S.fk, fk_S a, S.isNone]
    · have hb : b.isNone = false := by simpa using hb
      simp [-Pl.rows, -Pl.acts, -Pl.nsl, -Pl.len, List.filterMap_cons, S.rows, S.fk, hb, fk_S a, fk_S b]
  | .caseA v a c, p, k => by cases v <;> simp [-Pl.rows, -Pl.acts, -Pl.nsl, -Pl.len, List.filterMap_cons, S.rows, S.fk, case3, fk_save, matR, fk_S a, fk_S c]
  | .caseB v d a c, p, k => by cases v <;> simp [-Pl.rows, -Pl.acts, -Pl.nsl, -Pl.len, List.filterMap_cons, S.rows, S.fk, case3, fk_save, matR, fk_S a, fk_S c, fk_S d]
  | .caseC v a d, p, k => by cases v <;> simp [-Pl.rows, -Pl.acts, -Pl.nsl, -Pl.len, List.filterMap_cons, S.rows, S.fk, case2, fk_save, matR, fk_S a, fk_S d]
  | .for_ q e t b, p, k => by simp [-Pl.rows, -Pl.acts, -Pl.nsl, -Pl.len, List.filterMap_cons, S.rows, S.fk, loopR, fk_pl, fk_S b]
  | .while_ e b, p, k => by simp [-Pl.rows, -Pl.acts, -Pl.nsl, -Pl.len, List.filterMap_cons, S.rows, S.fk, loopR, fk_S b]
  | .repeat_ e b, p, k => by simp [-Pl.rows, -Pl.acts, -Pl.nsl, -Pl.len, List.filterMap_cons, S.rows, S.fk, fk_S b]
  | .forever b, p, k => by simp [-Pl.rows, -Pl.acts, -Pl.nsl, -Pl.len, List.filterMap_cons, S.rows, S.fk, fk_S b]
  | .block l c, p, k => by simp [-Pl.rows, -Pl.acts, -Pl.nsl, -Pl.len, List.filterMap_cons, S.rows, S.fk, fk_scR, fk_scL, fk_L l]
  | .fork l c, p, k => by simp [-Pl.rows, -Pl.acts, -Pl.nsl, -Pl.len, List.filterMap_cons, S.rows, S.fk, fk_scR, fk_scL, fk_F l, starts_num]
  | .delay e b, p, k => by simp [-Pl.rows, -Pl.acts, -Pl.nsl, -Pl.len, List.filterMap_cons, S.rows, S.fk, fk_S b]
  | .wait e b, p, k => by simp [-Pl.rows, -Pl.acts, -Pl.nsl, -Pl.len, List.filterMap_cons, S.rows, S.fk, fk_S b]
  | .await e b, p, k => by simp [-Pl.rows, -Pl.acts, -Pl.nsl, -Pl.len, List.filterMap_cons, S.rows, S.fk, fk_S b]
theorem fk_L : ∀ (l : SL) (p k : Nat), (l.rows p k).filterMap Row.fork? = l.fk
  | .nil, _, _ => by simp [-Pl.rows, -Pl.acts, -Pl.nsl, -Pl.len, List.filterMap_cons, SL.rows, SL.fk]
  | .cons s r, p, k => by simp [-Pl.rows, -Pl.acts, -Pl.nsl, -Pl.len, List.filterMap_cons, SL.rows, SL.fk, fk_S s, fk_L r]
theorem fk_F : ∀ (l : SL) (p k : Nat), (l.frows p k).filterMap Row.fork? = l.fk
  | .nil, _, _ => by simp [-Pl.rows, -Pl.acts, -Pl.nsl, -Pl.len, List.filterMap_cons, SL.frows, SL.fk]
  | .cons s r, p, k => by simp [-Pl.rows, -Pl.acts, -Pl.nsl, -Pl.len, List.filterMap_cons, SL.frows, SL.fk, fk_S s, fk_F r]
end
end
-- P34
section
set_option maxHeartbeats 400000
open PySem
theorem left_pl (q : Pl) (p k : Nat) : (q.rows p k).filterMap Row.left? = [] := by cases q <;> rfl
theorem left_save (v : Option Int) (k : Nat) : (saveR v k).filterMap Row.left? = [] := by cases v <;> simp [saveR]
mutual
theorem left_S : ∀ (s : S) (p k : Nat), ((s.rows p k).filterMap Row.left?).Perm (s.op.map (·.1))
  | .none, p, k => by simp [S.rows, S.op]
  | .pl q, p, k => by simp [-Pl.rows, S.rows, S.op, left_pl]
  | .ite e a b, p, k => by
    by_cases hb : b.isNone = true
    · have := S.isNone_eq hb
      subst this
      simpa [S.rows, S.op, List.filterMap_cons, S.isNone] using left_S a _ _
    · have hb : b.isNone = false := by simpa using hb
      simpa [S.rows, S.op, List.filterMap_cons, hb] using (left_S a _ _).append (left_S b _ _)
  | .caseA v a c, p, k => by cases v <;> simpa [S.rows, S.op, case3, saveR, List.filterMap_cons, matR] using (left_S a _ _).append (left_S c _ _)
  | .caseB v d a c, p, k => by cases v <;> simpa [S.rows, S.op, case3, saveR, List.filterMap_cons, matR] using (left_S d _ _).append ((left_S a _ _).append (left_S c _ _))
  | .caseC v a d, p, k => by cases v <;> simpa [S.rows, S.op, case2, saveR, List.filterMap_cons, matR] using (left_S d _ _).append (left_S a _ _)
  | .for_ q e t b, p, k => by simpa [-Pl.rows, S.rows, S.op, loopR, List.filterMap_cons, left_pl] using left_S b _ _
  | .while_ e b, p, k => by simpa [S.rows, S.op, loopR, List.filterMap_cons] using left_S b _ _
  | .repeat_ e b, p, k => by simpa [S.rows, S.op, List.filterMap_cons] using left_S b _ _
  | .forever b, p, k => by simpa [S.rows, S.op, List.filterMap_cons] using left_S b _ _
  | .block l none, p, k => by simpa [S.rows, S.op, scR, scL, scOp, scLen] using left_L l _ _
  | .block l (some c), p, k => by
    have h := (left_L l (p + 1) k).append_right [(c : Int)]
    have h2 : (l.op.map (·.1) ++ [(c : Int)]).Perm ((c : Int) :: l.op.map (·.1)) := List.perm_append_comm
    simpa [S.rows, S.op, scR, scL, scOp, scLen, List.filterMap_cons] using h.trans h2
  | .fork l none, p, k => by simpa [S.rows, S.op, scR, scL, scOp, scLen, List.filterMap_cons] using left_F l _ _
  | .fork l (some c), p, k => by simpa [S.rows, S.op, scR, scL, scOp, scLen, List.filterMap_cons] using left_F l _ _
  | .delay e b, p, k => by simpa [S.rows, S.op, List.filterMap_cons] using left_S b _ _
  | .wait e b, p, k => by simpa [S.rows, S.op, List.filterMap_cons] using left_S b _ _
  | .await e b, p, k => by simpa [S.rows, S.op, List.filterMap_cons] using left_S b _ _
theorem left_L : ∀ (l : SL) (p k : Nat), ((l.rows p k).filterMap Row.left?).Perm (l.op.map (·.1))
  | .nil, _, _ => by simp [SL.rows, SL.op]
  | .cons s r, p, k => by simpa [SL.rows, SL.op] using (left_S s _ _).append (left_L r _ _)
theorem left_F : ∀ (l : SL) (p k : Nat), ((l.frows p k).filterMap Row.left?).Perm (l.op.map (·.1))
  | .nil, _, _ => by simp [SL.frows, SL.op]
  | .cons s r, p, k => by simpa [SL.frows, SL.op, List.filterMap_cons] using (left_S s _ _).append (left_F r _ _)
end
theorem insI_comm (x y : Int) : ∀ l : List Int, insI x (insI y l) = insI y (insI x l)
  | [] => by
    simp only [insI]
    split <;> split <;> first | rfl | (congr 2 <;> omega) | omega
  | z :: l => by
    have ih := insI_comm x y l
    simp only [insI]
    by_cases h1 : y ≤ z <;> by_cases h2 : x ≤ z <;> by_cases h3 : x ≤ y <;> by_cases h4 : y ≤ x <;> simp [insI, h1, h2, h3, h4, ih] <;> omega
theorem sortI_of {a b : List Int} (h : a.Perm b) : sortI a = sortI b := by
  induction h with
  | nil => rfl
  | cons x _ ih => simp only [sortI, ih]
  | swap x y l => simp only [sortI]; exact insI_comm _ _ _
  | trans _ _ h1 h2 => exact h1.trans h2
end
-- P35
section
set_option maxHeartbeats 400000
open PySem
theorem pred_toNat (n : Nat) : (((n + 1 : Nat) : Int) - 1).toNat = n := by omega
section
variable {RS : List Row}
theorem op_pl (q : Pl) (p k : Nat) : (q.rows p k).filterMap (opens RS) = [] := by cases q <;> simp [opens]
theorem op_save (v : Option Int) (k : Nat) : (saveR v k).filterMap (opens RS) = [] := by cases v <;> simp [saveR, opens]
theorem op_mat (v : Option Int) (k : Nat) (lab : Int) (t : Nat) : opens RS (matR v k lab t) = none := by cases v <;> rfl
theorem save_len (v : Option Int) (k : Nat) : (saveR v k).length = vLen v := by cases v <;> rfl
theorem op_jump (t : Int) : opens RS (.jump t) = none := rfl
theorem op_case3 {M : Int → Nat → Row} (hM : ∀ a b, opens RS (M a b) = none) {ld la lc nd na : Nat} {Rd Ra Rc : Nat → Nat → List Row} {Od Oa Oc : List (Int × Nat)} (hd : ∀ p k, (Rd p k).length = ld) (ha : ∀ p k, (Ra p k).length = la)
    (fd : ∀ p k, AllAt (IsRow RS) p (Rd p k) → (Rd p k).filterMap (opens RS) = Od) (fa : ∀ p k, AllAt (IsRow RS) p (Ra p k) → (Ra p k).filterMap (opens RS) = Oa) (fc : ∀ p k, AllAt (IsRow RS) p (Rc p k) → (Rc p k).filterMap (opens RS) = Oc) (p k : Nat) (hR : AllAt (IsRow RS) p (case3 M ld la lc nd na Rd Ra Rc p k)) :
    (case3 M ld la lc nd na Rd Ra Rc p k).filterMap (opens RS) = Od ++ (Oa ++ Oc) := by
  simp only [case3, AllAt, AllAt_append, hd, ha] at hR
  obtain ⟨zz, zz, zz, rd, zz, ra, zz, rc, zz⟩ := hR
  have e1 := fd _ _ rd
  have e2 := fa _ _ (at_eq (q := p + ld + 4) ra (by exact (Nat.le_antisymm (lin [_, _] [] (.a (.a (.a (.a (.a (.v 0) (.n 1)) (.n 1)) (.n 1)) (.v 1)) (.n 1)) (.a (.a (.v 0) (.v 1)) (.n 4)) (.refl true) ) (lin [_, _] [] (.a (.a (.v 0) (.v 1)) (.n 4)) (.a (.a (.a (.a (.a (.v 0) (.n 1)) (.n 1)) (.n 1)) (.v 1)) (.n 1)) (.refl true) ))))
  have e3 := fc _ _ (at_eq (q := p + ld + la + 5) rc (by exact (Nat.le_antisymm (lin [_, _, _] [] (.a (.a (.a (.a (.a (.a (.a (.v 0) (.n 1)) (.n 1)) (.n 1)) (.v 1)) (.n 1)) (.v 2)) (.n 1)) (.a (.a (.a (.v 0) (.v 1)) (.v 2)) (.n 5)) (.refl true) ) (lin [_, _, _] [] (.a (.a (.a (.v 0) (.v 1)) (.v 2)) (.n 5)) (.a (.a (.a (.a (.a (.a (.a (.v 0) (.n 1)) (.n 1)) (.n 1)) (.v 1)) (.n 1)) (.v 2)) (.n 1)) (.refl true) ))))
  simp only [case3, List.filterMap_cons, List.filterMap_append, hM, e1, e2, e3, op_jump, List.filterMap_nil, List.append_nil]
theorem op_case2 {M : Int → Nat → Row} (hM : ∀ a b, opens RS (M a b) = none) {ld la nd : Nat} {Rd Ra : Nat → Nat → List Row} {Od Oa : List (Int × Nat)} (hd : ∀ p k, (Rd p k).length = ld)
    (fd : ∀ p k, AllAt (IsRow RS) p (Rd p k) → (Rd p k).filterMap (opens RS) = Od) (fa : ∀ p k, AllAt (IsRow RS) p (Ra p k) → (Ra p k).filterMap (opens RS) = Oa) (p k : Nat) (hR : AllAt (IsRow RS) p (case2 M ld la nd Rd Ra p k)) :
    (case2 M ld la nd Rd Ra p k).filterMap (opens RS) = Od ++ Oa := by
  simp only [case2, AllAt, AllAt_append, hd] at hR
  obtain ⟨zz, zz, rd, zz, ra, zz⟩ := hR
  have e1 := fd _ _ rd
  have e2 := fa _ _ (at_eq (q := p + ld + 3) ra (by exact (Nat.le_antisymm (lin [_, _] [] (.a (.a (.a (.a (.v 0) (.n 1)) (.n 1)) (.v 1)) (.n 1)) (.a (.a (.v 0) (.v 1)) (.n 3)) (.refl true) ) (lin [_, _] [] (.a (.a (.v 0) (.v 1)) (.n 3)) (.a (.a (.a (.a (.v 0) (.n 1)) (.n 1)) (.v 1)) (.n 1)) (.refl true) ))))
  simp only [case2, List.filterMap_cons, List.filterMap_append, hM, e1, e2, op_jump, List.filterMap_nil, List.append_nil]
theorem op_loop {lb ls nb : Nat} {Rb Rs : Nat → Nat → List Row} {Ob : List (Int × Nat)} (e : Int) (fb : ∀ p k, AllAt (IsRow RS) p (Rb p k) → (Rb p k).filterMap (opens RS) = Ob) (fs : ∀ p k, (Rs p k).filterMap (opens RS) = []) (p k : Nat) (hR : AllAt (IsRow RS) p (loopR lb ls nb Rb Rs e p k)) :
    (loopR lb ls nb Rb Rs e p k).filterMap (opens RS) = Ob := by
  simp only [loopR, AllAt, AllAt_append] at hR
  have e1 := fb _ _ hR.2.1
  simp only [loopR, List.filterMap_cons, List.filterMap_append, e1, fs, opens, List.filterMap_nil, List.append_nil]
mutual
theorem op_S : ∀ (s : S) (p k : Nat), s.thin → AllAt (IsRow RS) p (s.rows p k) → (s.rows p k).filterMap (opens RS) = s.op
  | .none, p, k, _, _ => by simp [S.rows, S.op]
  | .pl q, p, k, _, _ => by simp only [S.rows, S.op, op_pl]
  | .ite e a b, p, k, ht, hR => by
    simp only [S.thin] at ht
    by_cases hb : b.isNone = true
    · have := S.isNone_eq hb
      subst this
      simp only [S.rows, hb, if_true] at hR ⊢
      have e1 := op_S a _ _ ht.1 hR.2
      simp only [S.op, List.filterMap_cons, opens, e1, List.append_nil]
    · have hb : b.isNone = false := by simpa using hb
      simp only [S.rows, hb, Bool.false_eq_true, if_false, AllAt, AllAt_append, (mkS a).1] at hR ⊢
      have e1 := op_S a _ _ ht.1 hR.2.1
      have e2 := op_S b _ _ ht.2 (at_eq (q := p + a.len + 2) hR.2.2.2 (by exact (Nat.le_antisymm (lin [_, _] [] (.a (.a (.a (.v 0) (.n 1)) (.v 1)) (.n 1)) (.a (.a (.v 0) (.v 1)) (.n 2)) (.refl true) ) (lin [_, _] [] (.a (.a (.v 0) (.v 1)) (.n 2)) (.a (.a (.a (.v 0) (.n 1)) (.v 1)) (.n 1)) (.refl true) ))))
      simp only [S.op, List.filterMap_cons, List.filterMap_append, opens, e1, e2]
  | .caseA v a c, p, k, ht, hR => by
    simp only [S.thin] at ht
    simp only [S.rows, AllAt_append, save_len] at hR ⊢
    rw [List.filterMap_append, op_save, op_case3 (M := matR v k) (ld := 0) (Rd := fun zz zz => []) (Od := []) (fun zz zz => op_mat _ _ _ _) (fun zz zz => rfl) (mkS a).1 (fun zz zz zz => rfl) (fun p k => op_S a p k ht.1) (fun p k => op_S c p k ht.2) _ _ hR.2]
    simp [S.op]
  | .caseB v d a c, p, k, ht, hR => by
    simp only [S.thin] at ht
    simp only [S.rows, AllAt_append, save_len] at hR ⊢
    rw [List.filterMap_append, op_save, op_case3 (M := matR v k) (fun zz zz => op_mat _ _ _ _) (mkS d).1 (mkS a).1 (fun p k => op_S d p k ht.1) (fun p k => op_S a p k ht.2.1) (fun p k => op_S c p k ht.2.2) _ _ hR.2]
    simp [S.op]
  | .caseC v a d, p, k, ht, hR => by
    simp only [S.thin] at ht
    simp only [S.rows, AllAt_append, save_len] at hR ⊢
    rw [List.filterMap_append, op_save, op_case2 (M := matR v k) (fun zz zz => op_mat _ _ _ _) (mkS d).1 (fun p k => op_S d p k ht.2) (fun p k => op_S a p k ht.1) _ _ hR.2]
    simp [S.op]
  | .for_ q e t b, p, k, ht, hR => by
    simp only [S.thin] at ht
    simp only [S.rows, AllAt_append, (mk_pl q).1] at hR ⊢
    rw [List.filterMap_append, op_pl, op_loop e (fun p k => op_S b p k ht) (fun p k => op_pl t p k) _ _ hR.2]
    simp [S.op]
  | .while_ e b, p, k, ht, hR => by
    simp only [S.thin] at ht
    simp only [S.rows] at hR ⊢
    rw [op_loop e (fun p k => op_S b p k ht) (fun p k => rfl) _ _ hR]
    simp [S.op]
  | .repeat_ e b, p, k, ht, hR => by
    simp only [S.thin] at ht
    simp only [S.rows, AllAt, AllAt_append] at hR ⊢
    have e1 := op_S b _ _ ht hR.2.2.1
    simp only [S.op, List.filterMap_cons, List.filterMap_append, opens, e1, List.filterMap_nil, List.append_nil]
  | .forever b, p, k, ht, hR => by
    simp only [S.thin] at ht
    simp only [S.rows, AllAt, AllAt_append] at hR ⊢
    have e1 := op_S b _ _ ht hR.1
    simp only [S.op, List.filterMap_cons, List.filterMap_append, opens, e1, List.filterMap_nil, List.append_nil]
  | .block l none, p, k, ht, hR => by
    simp only [S.thin] at ht
    simp only [S.rows, scR, scL, scLen, List.nil_append, List.append_nil, Nat.add_zero] at hR ⊢
    rw [op_L l _ _ ht hR]
    simp [S.op, scOp]
  | .block l (some c), p, k, ht, hR => by
    simp only [S.thin] at ht
    simp only [S.rows, scR, scL, scLen, List.cons_append, List.nil_append, AllAt, AllAt_append, rows_len l _ _ (mkL l)] at hR ⊢
    have e1 := op_L l _ _ ht hR.2.1
    have e2 : (((p + l.len + 2 : Nat) : Int) - 1).toNat = p + 1 + l.len := (pred_toNat (p + l.len + 1)).trans (by exact (Nat.le_antisymm (lin [_, _] [] (.a (.a (.v 0) (.v 1)) (.n 1)) (.a (.a (.v 0) (.n 1)) (.v 1)) (.refl true) ) (lin [_, _] [] (.a (.a (.v 0) (.n 1)) (.v 1)) (.a (.a (.v 0) (.v 1)) (.n 1)) (.refl true) )))
    have e3 : RS[p + 1 + l.len]? = some (.leave c) := hR.2.2.1
    simp only [S.op, scOp, List.filterMap_cons, List.filterMap_append, opens, e1, e2, e3, Option.map_some, List.filterMap_nil, List.append_nil, List.cons_append, List.nil_append]
    rfl
  | .fork l none, p, k, ht, hR => by
    simp only [S.thin] at ht
    simp only [S.rows, scR, scL, scLen, List.cons_append, List.nil_append, AllAt] at hR ⊢
    have e1 := op_F l _ _ ht.1 hR.2.2.2
    simp only [S.op, scOp, List.filterMap_cons, opens, e1, List.nil_append]
  | .fork l (some c), p, k, ht, hR => by
    simp only [S.thin] at ht
    simp only [S.rows, scR, scL, scLen, List.cons_append, List.nil_append, AllAt] at hR ⊢
    have e1 := op_F l _ _ ht.1 hR.2.2.2.2.2
    have e2 : (((p + l.flen + 5 : Nat) : Int) - 1).toNat = p + 3 + 2 + l.flen - 1 := (pred_toNat (p + l.flen + 4)).trans (congrArg (· - 1) (by exact (Nat.le_antisymm (lin [_, _] [] (.a (.a (.a (.v 0) (.v 1)) (.n 4)) (.n 1)) (.a (.a (.a (.v 0) (.n 3)) (.n 2)) (.v 1)) (.refl true) ) (lin [_, _] [] (.a (.a (.a (.v 0) (.n 3)) (.n 2)) (.v 1)) (.a (.a (.a (.v 0) (.v 1)) (.n 4)) (.n 1)) (.refl true) )) : p + l.flen + 4 + 1 = p + 3 + 2 + l.flen))
    have e3 := frows_last l _ _ ht.2.2 hR.2.2.2.2.2
    simp only [S.op, scOp, List.filterMap_cons, opens, e1, e2, Option.map_some, List.cons_append, List.nil_append]
    rw [show RS[p + 3 + 2 + l.flen - 1]? = some .fin from e3]
    rfl
  | .delay e b, p, k, ht, hR => by
    simp only [S.thin] at ht
    simp only [S.rows, AllAt] at hR ⊢
    simp only [S.op, List.filterMap_cons, opens, op_S b _ _ ht hR.2]
  | .wait e b, p, k, ht, hR => by
    simp only [S.thin] at ht
    simp only [S.rows, AllAt] at hR ⊢
    simp only [S.op, List.filterMap_cons, opens, op_S b _ _ ht hR.2]
  | .await e b, p, k, ht, hR => by
    simp only [S.thin] at ht
    simp only [S.rows, AllAt] at hR ⊢
    simp only [S.op, List.filterMap_cons, opens, op_S b _ _ ht hR.2]
theorem op_L : ∀ (l : SL) (p k : Nat), l.thin → AllAt (IsRow RS) p (l.rows p k) → (l.rows p k).filterMap (opens RS) = l.op
  | .nil, p, k, _, _ => by simp [SL.rows, SL.op]
  | .cons s r, p, k, ht, hR => by
    simp only [SL.thin] at ht
    simp only [SL.rows, AllAt_append, (mkS s).1] at hR ⊢
    simp only [SL.op, List.filterMap_append, op_S s _ _ ht.1 hR.1, op_L r _ _ ht.2 hR.2]
theorem op_F : ∀ (l : SL) (p k : Nat), l.thin → AllAt (IsRow RS) p (l.frows p k) → (l.frows p k).filterMap (opens RS) = l.op
  | .nil, p, k, _, _ => by simp [SL.frows, SL.op]
  | .cons s r, p, k, ht, hR => by
    simp only [SL.thin] at ht
    simp only [SL.frows, AllAt, AllAt_append, (mkS s).1] at hR ⊢
    simp only [SL.op, List.filterMap_append, List.filterMap_cons, opens, op_S s _ _ ht.1 hR.1, op_F r _ _ ht.2 hR.2.2]
end
end
end
-- P36
section
set_option maxHeartbeats 400000
open PySem
theorem pl_len (q : Pl) : q.len ≤ 3 := by cases q <;> simp
theorem pl_nsl (q : Pl) : q.nsl ≤ 1 := by cases q <;> simp
theorem pl_acts (q : Pl) : q.acts.length ≤ 3 := by cases q <;> simp
theorem pl_plain (q : Pl) : q.acts.all (AV.plain 8) = true := by
  cases q
  case trig b e => cases b <;> simp [AV.plain]
  all_goals simp [AV.plain]
theorem vLen_le (v : Option Int) : vLen v ≤ 1 := by cases v <;> simp [vLen]
theorem vActs_len (v : Option Int) : (vActs v).length ≤ 1 := by cases v <;> simp [vActs]
theorem scLen_le (b : Nat) (c : Option Nat) : scLen b c ≤ b := by cases c <;> simp [scLen]
theorem scOp_len (x : Nat) (c : Option Nat) : (scOp x c).length ≤ 1 := by cases c <;> simp [scOp]
theorem vActs_plain (v : Option Int) : (vActs v).all (AV.plain 8) = true := by cases v <;> simp [vActs, AV.plain]
mutual
theorem len_S : ∀ s : S, s.thin → s.len ≤ 12 * s.cost
  | .none, ht => by
    simp [S.len]
  | .pl q, ht => by
    have := pl_len q
    simp only [S.len, S.cost]
    exact (lin [_] [.le (.v 0) (.n 3)] (.v 0) (.m 12 (.n 1)) (.refl true) this)
  | .ite e a b, ht => by
    simp only [S.thin] at ht
    have ha := len_S a (ht.1)
    have hb := len_S b (ht.2)
    simp only [S.len, S.cost]
    split
    · exact (lin [_, _, _] [.le (.v 0) (.m 12 (.v 1))] (.a (.v 0) (.n 1)) (.m 12 (.a (.a (.v 1) (.v 2)) (.n 1))) (.refl true) ha)
    · exact (lin [_, _, _, _] [.le (.v 0) (.m 12 (.v 1)), .le (.v 2) (.m 12 (.v 3))] (.a (.a (.v 0) (.v 2)) (.n 2)) (.m 12 (.a (.a (.v 1) (.v 3)) (.n 1))) (.refl true) ha hb)
  | .caseA v a c, ht => by
    simp only [S.thin] at ht
    have ha := len_S a (ht.1)
    have hc := len_S c (ht.2)
    have := vLen_le v
    simp only [S.len, S.cost]
    exact (lin [_, _, _, _, _] [.le (.v 0) (.n 1), .le (.v 1) (.m 12 (.v 2)), .le (.v 3) (.m 12 (.v 4))] (.a (.v 0) (.a (.a (.v 1) (.v 3)) (.n 6))) (.m 12 (.a (.a (.v 2) (.v 4)) (.n 1))) (.refl true) this ha hc)
  | .caseB v d a c, ht => by
    simp only [S.thin] at ht
    have hd := len_S d (ht.1)
    have ha := len_S a (ht.2.1)
    have hc := len_S c (ht.2.2)
    have := vLen_le v
    simp only [S.len, S.cost]
    exact (lin [_, _, _, _, _, _, _] [.le (.v 0) (.n 1), .le (.v 1) (.m 12 (.v 2)), .le (.v 3) (.m 12 (.v 4)), .le (.v 5) (.m 12 (.v 6))] (.a (.v 0) (.a (.a (.a (.v 1) (.v 3)) (.v 5)) (.n 6))) (.m 12 (.a (.a (.a (.v 2) (.v 4)) (.v 6)) (.n 1))) (.refl true) this hd ha hc)
  | .caseC v a d, ht => by
    simp only [S.thin] at ht
    have ha := len_S a (ht.1)
    have hd := len_S d (ht.2)
    have := vLen_le v
    simp only [S.len, S.cost]
    exact (lin [_, _, _, _, _] [.le (.v 0) (.n 1), .le (.v 1) (.m 12 (.v 2)), .le (.v 3) (.m 12 (.v 4))] (.a (.v 0) (.a (.a (.v 1) (.v 3)) (.n 4))) (.m 12 (.a (.a (.v 4) (.v 2)) (.n 1))) (.refl true) this hd ha)
  | .for_ q e t b, ht => by
    simp only [S.thin] at ht
    have hb := len_S b ht
    have h1 := pl_len q
    have h2 := pl_len t
    simp only [S.len, S.cost]
    exact (lin [_, _, _, _] [.le (.v 0) (.n 3), .le (.v 1) (.m 12 (.v 2)), .le (.v 3) (.n 3)] (.a (.a (.a (.v 0) (.v 1)) (.v 3)) (.n 2)) (.m 12 (.a (.v 2) (.n 1))) (.refl true) h1 hb h2)
  | .while_ e b, ht => by
    simp only [S.thin] at ht
    have hb := len_S b ht
    simp only [S.len, S.cost]
    exact (lin [_, _] [.le (.v 0) (.m 12 (.v 1))] (.a (.v 0) (.n 2)) (.m 12 (.a (.v 1) (.n 1))) (.refl true) hb)
  | .repeat_ e b, ht => by
    simp only [S.thin] at ht
    have hb := len_S b ht
    simp only [S.len, S.cost]
    exact (lin [_, _] [.le (.v 0) (.m 12 (.v 1))] (.a (.v 0) (.n 3)) (.m 12 (.a (.v 1) (.n 1))) (.refl true) hb)
  | .forever b, ht => by
    simp only [S.thin] at ht
    have hb := len_S b ht
    simp only [S.len, S.cost]
    exact (lin [_, _] [.le (.v 0) (.m 12 (.v 1))] (.a (.v 0) (.n 1)) (.m 12 (.a (.v 1) (.n 1))) (.refl true) hb)
  | .block l c, ht => by
    simp only [S.thin] at ht
    have hl := len_L l ht
    have := scLen_le 2 c
    simp only [S.len, S.cost]
    exact (lin [_, _, _] [.le (.v 0) (.m 12 (.v 1)), .le (.v 2) (.n 2)] (.a (.v 0) (.v 2)) (.m 12 (.a (.v 1) (.n 1))) (.refl true) hl this)
  | .fork l c, ht => by
    simp only [S.thin] at ht
    have hl := len_F l (ht.1)
    have hn := ht.2.1
    have := scLen_le 2 c
    simp only [S.len, S.cost]
    exact (lin [_, _, _, _] [.le (.v 0) (.a (.m 12 (.v 1)) (.v 2)), .le (.v 3) (.n 2), .le (.v 2) (.n 3)] (.a (.a (.v 0) (.n 3)) (.v 3)) (.m 12 (.a (.v 1) (.n 1))) (.refl true) hl this ht.2.1)
  | .delay e b, ht => by
    simp only [S.thin] at ht
    have hb := len_S b ht
    simp only [S.len, S.cost]
    exact (lin [_, _] [.le (.v 0) (.m 12 (.v 1))] (.a (.v 0) (.n 1)) (.m 12 (.a (.v 1) (.n 1))) (.refl true) hb)
  | .wait e b, ht => by
    simp only [S.thin] at ht
    have hb := len_S b ht
    simp only [S.len, S.cost]
    exact (lin [_, _] [.le (.v 0) (.m 12 (.v 1))] (.a (.v 0) (.n 1)) (.m 12 (.a (.v 1) (.n 1))) (.refl true) hb)
  | .await e b, ht => by
    simp only [S.thin] at ht
    have hb := len_S b ht
    simp only [S.len, S.cost]
    exact (lin [_, _] [.le (.v 0) (.m 12 (.v 1))] (.a (.v 0) (.n 1)) (.m 12 (.a (.v 1) (.n 1))) (.refl true) hb)
theorem len_L : ∀ l : SL, l.thin → l.len ≤ 12 * l.cost
  | .nil, ht => by
    simp only [SL.len, SL.flen, SL.cost, SL.num]
    try exact (lin [] [] (.n 0) (.m 12 (.n 0)) (.refl true) )
  | .cons s r, ht => by
    simp only [SL.thin] at ht
    have hs := len_S s ht.1
    have hr := len_L r ht.2
    simp only [SL.len, SL.flen, SL.cost, SL.num]
    try exact (lin [_, _, _, _] [.le (.v 0) (.m 12 (.v 1)), .le (.v 2) (.m 12 (.v 3))] (.a (.v 0) (.v 2)) (.m 12 (.a (.v 1) (.v 3))) (.refl true) hs hr)
theorem len_F : ∀ l : SL, l.thin → l.flen ≤ 12 * l.cost + l.num
  | .nil, ht => by
    simp only [SL.len, SL.flen, SL.cost, SL.num]
    try exact (lin [] [] (.n 0) (.a (.m 12 (.n 0)) (.n 0)) (.refl true) )
  | .cons s r, ht => by
    simp only [SL.thin] at ht
    have hs := len_S s ht.1
    have hr := len_F r ht.2
    simp only [SL.len, SL.flen, SL.cost, SL.num]
    try exact (lin [_, _, _, _, _] [.le (.v 0) (.m 12 (.v 1)), .le (.v 2) (.a (.m 12 (.v 3)) (.v 4))] (.a (.a (.v 0) (.n 1)) (.v 2)) (.a (.m 12 (.a (.v 1) (.v 3))) (.a (.v 4) (.n 1))) (.refl true) hs hr)
end
mutual
theorem nsl_S : ∀ s : S, s.nsl ≤ 2 * s.cost
  | .none => by
    simp [S.nsl]
  | .pl q => by
    have := pl_nsl q
    simp only [S.nsl, S.cost]
    exact (lin [_] [.le (.v 0) (.n 1)] (.v 0) (.m 2 (.n 1)) (.refl true) this)
  | .ite e a b => by
    have ha := nsl_S a
    have hb := nsl_S b
    simp only [S.nsl, S.cost]
    exact (lin [_, _, _, _] [.le (.v 0) (.m 2 (.v 1)), .le (.v 2) (.m 2 (.v 3))] (.a (.v 0) (.v 2)) (.m 2 (.a (.a (.v 1) (.v 3)) (.n 1))) (.refl true) ha hb)
  | .caseA v a c => by
    have ha := nsl_S a
    have hc := nsl_S c
    have := vLen_le v
    simp only [S.nsl, S.cost]
    exact (lin [_, _, _, _, _] [.le (.v 0) (.n 1), .le (.v 1) (.m 2 (.v 2)), .le (.v 3) (.m 2 (.v 4))] (.a (.v 0) (.a (.v 1) (.v 3))) (.m 2 (.a (.a (.v 2) (.v 4)) (.n 1))) (.refl true) this ha hc)
  | .caseB v d a c => by
    have hd := nsl_S d
    have ha := nsl_S a
    have hc := nsl_S c
    have := vLen_le v
    simp only [S.nsl, S.cost]
    exact (lin [_, _, _, _, _, _, _] [.le (.v 0) (.n 1), .le (.v 1) (.m 2 (.v 2)), .le (.v 3) (.m 2 (.v 4)), .le (.v 5) (.m 2 (.v 6))] (.a (.v 0) (.a (.a (.v 1) (.v 3)) (.v 5))) (.m 2 (.a (.a (.a (.v 2) (.v 4)) (.v 6)) (.n 1))) (.refl true) this hd ha hc)
  | .caseC v a d => by
    have ha := nsl_S a
    have hd := nsl_S d
    have := vLen_le v
    simp only [S.nsl, S.cost]
    exact (lin [_, _, _, _, _] [.le (.v 0) (.n 1), .le (.v 1) (.m 2 (.v 2)), .le (.v 3) (.m 2 (.v 4))] (.a (.v 0) (.a (.v 1) (.v 3))) (.m 2 (.a (.a (.v 4) (.v 2)) (.n 1))) (.refl true) this hd ha)
  | .for_ q e t b => by
    have hb := nsl_S b
    have h1 := pl_nsl q
    have h2 := pl_nsl t
    simp only [S.nsl, S.cost]
    exact (lin [_, _, _, _] [.le (.v 0) (.n 1), .le (.v 1) (.m 2 (.v 2)), .le (.v 3) (.n 1)] (.a (.a (.v 0) (.v 1)) (.v 3)) (.m 2 (.a (.v 2) (.n 1))) (.refl true) h1 hb h2)
  | .while_ e b => by
    have hb := nsl_S b
    simp only [S.nsl, S.cost]
    exact (lin [_, _] [.le (.v 0) (.m 2 (.v 1))] (.v 0) (.m 2 (.a (.v 1) (.n 1))) (.refl true) hb)
  | .repeat_ e b => by
    have hb := nsl_S b
    simp only [S.nsl, S.cost]
    exact (lin [_, _] [.le (.v 0) (.m 2 (.v 1))] (.a (.v 0) (.n 1)) (.m 2 (.a (.v 1) (.n 1))) (.refl true) hb)
  | .forever b => by
    have hb := nsl_S b
    simp only [S.nsl, S.cost]
    exact (lin [_, _] [.le (.v 0) (.m 2 (.v 1))] (.v 0) (.m 2 (.a (.v 1) (.n 1))) (.refl true) hb)
  | .block l c => by
    have hl := nsl_L l
    simp only [S.nsl, S.cost]
    exact (lin [_, _] [.le (.v 0) (.m 2 (.v 1))] (.v 0) (.m 2 (.a (.v 1) (.n 1))) (.refl true) hl)
  | .fork l c => by
    have hl := nsl_L l
    simp only [S.nsl, S.cost]
    exact (lin [_, _] [.le (.v 0) (.m 2 (.v 1))] (.v 0) (.m 2 (.a (.v 1) (.n 1))) (.refl true) hl)
  | .delay e b => by
    have hb := nsl_S b
    simp only [S.nsl, S.cost]
    exact (lin [_, _] [.le (.v 0) (.m 2 (.v 1))] (.v 0) (.m 2 (.a (.v 1) (.n 1))) (.refl true) hb)
  | .wait e b => by
    have hb := nsl_S b
    simp only [S.nsl, S.cost]
    exact (lin [_, _] [.le (.v 0) (.m 2 (.v 1))] (.v 0) (.m 2 (.a (.v 1) (.n 1))) (.refl true) hb)
  | .await e b => by
    have hb := nsl_S b
    simp only [S.nsl, S.cost]
    exact (lin [_, _] [.le (.v 0) (.m 2 (.v 1))] (.v 0) (.m 2 (.a (.v 1) (.n 1))) (.refl true) hb)
theorem nsl_L : ∀ l : SL, l.nsl ≤ 2 * l.cost
  | .nil => by
    simp only [SL.nsl, SL.cost]
    try exact (lin [] [] (.n 0) (.m 2 (.n 0)) (.refl true) )
  | .cons s r => by
    have hs := nsl_S s
    have hr := nsl_L r
    simp only [SL.nsl, SL.cost]
    try exact (lin [_, _, _, _] [.le (.v 0) (.m 2 (.v 1)), .le (.v 2) (.m 2 (.v 3))] (.a (.v 0) (.v 2)) (.m 2 (.a (.v 1) (.v 3))) (.refl true) hs hr)
end
mutual
theorem opl_S : ∀ s : S, s.op.length ≤ s.cost
  | .none => by
    simp [S.op]
  | .pl q => by
    simp [S.op]
  | .ite e a b => by
    have ha := opl_S a
    have hb := opl_S b
    simp only [S.op, S.cost, List.length_append]
    exact (lin [_, _, _, _] [.le (.v 0) (.v 1), .le (.v 2) (.v 3)] (.a (.v 0) (.v 2)) (.a (.a (.v 1) (.v 3)) (.n 1)) (.refl true) ha hb)
  | .caseA v a c => by
    have ha := opl_S a
    have hc := opl_S c
    simp only [S.op, S.cost, List.length_append]
    exact (lin [_, _, _, _] [.le (.v 0) (.v 1), .le (.v 2) (.v 3)] (.a (.v 0) (.v 2)) (.a (.a (.v 1) (.v 3)) (.n 1)) (.refl true) ha hc)
  | .caseB v d a c => by
    have hd := opl_S d
    have ha := opl_S a
    have hc := opl_S c
    simp only [S.op, S.cost, List.length_append]
    exact (lin [_, _, _, _, _, _] [.le (.v 0) (.v 1), .le (.v 2) (.v 3), .le (.v 4) (.v 5)] (.a (.v 0) (.a (.v 2) (.v 4))) (.a (.a (.a (.v 1) (.v 3)) (.v 5)) (.n 1)) (.refl true) hd ha hc)
  | .caseC v a d => by
    have ha := opl_S a
    have hd := opl_S d
    simp only [S.op, S.cost, List.length_append]
    exact (lin [_, _, _, _] [.le (.v 0) (.v 1), .le (.v 2) (.v 3)] (.a (.v 0) (.v 2)) (.a (.a (.v 3) (.v 1)) (.n 1)) (.refl true) hd ha)
  | .for_ q e t b => by
    have hb := opl_S b
    simp only [S.op, S.cost, List.length_append]
    exact (lin [_, _] [.le (.v 0) (.v 1)] (.v 0) (.a (.v 1) (.n 1)) (.refl true) hb)
  | .while_ e b => by
    have hb := opl_S b
    simp only [S.op, S.cost, List.length_append]
    exact (lin [_, _] [.le (.v 0) (.v 1)] (.v 0) (.a (.v 1) (.n 1)) (.refl true) hb)
  | .repeat_ e b => by
    have hb := opl_S b
    simp only [S.op, S.cost, List.length_append]
    exact (lin [_, _] [.le (.v 0) (.v 1)] (.v 0) (.a (.v 1) (.n 1)) (.refl true) hb)
  | .forever b => by
    have hb := opl_S b
    simp only [S.op, S.cost, List.length_append]
    exact (lin [_, _] [.le (.v 0) (.v 1)] (.v 0) (.a (.v 1) (.n 1)) (.refl true) hb)
  | .block l c => by
    have hl := opl_L l
    have := scOp_len 22 c
    simp only [S.op, S.cost, List.length_append]
    exact (lin [_, _, _] [.le (.v 0) (.n 1), .le (.v 1) (.v 2)] (.a (.v 0) (.v 1)) (.a (.v 2) (.n 1)) (.refl true) this hl)
  | .fork l c => by
    have hl := opl_L l
    have := scOp_len 15 c
    simp only [S.op, S.cost, List.length_append]
    exact (lin [_, _, _] [.le (.v 0) (.n 1), .le (.v 1) (.v 2)] (.a (.v 0) (.v 1)) (.a (.v 2) (.n 1)) (.refl true) this hl)
  | .delay e b => by
    have hb := opl_S b
    simp only [S.op, S.cost, List.length_append]
    exact (lin [_, _] [.le (.v 0) (.v 1)] (.v 0) (.a (.v 1) (.n 1)) (.refl true) hb)
  | .wait e b => by
    have hb := opl_S b
    simp only [S.op, S.cost, List.length_append]
    exact (lin [_, _] [.le (.v 0) (.v 1)] (.v 0) (.a (.v 1) (.n 1)) (.refl true) hb)
  | .await e b => by
    have hb := opl_S b
    simp only [S.op, S.cost, List.length_append]
    exact (lin [_, _] [.le (.v 0) (.v 1)] (.v 0) (.a (.v 1) (.n 1)) (.refl true) hb)
theorem opl_L : ∀ l : SL, l.op.length ≤ l.cost
  | .nil => by
    simp only [SL.op, SL.cost, List.length_append, List.length_nil]
    try exact (Nat.le_refl _)
  | .cons s r => by
    have hs := opl_S s
    have hr := opl_L r
    simp only [SL.op, SL.cost, List.length_append, List.length_nil]
    try exact (lin [_, _, _, _] [.le (.v 0) (.v 1), .le (.v 2) (.v 3)] (.a (.v 0) (.v 2)) (.a (.v 1) (.v 3)) (.refl true) hs hr)
end
mutual
theorem fkl_S : ∀ s : S, s.fk.length ≤ s.cost
  | .none => by
    simp [S.fk]
  | .pl q => by
    simp [S.fk]
  | .ite e a b => by
    have ha := fkl_S a
    have hb := fkl_S b
    simp only [S.fk, S.cost, List.length_append, List.length_cons]
    exact (lin [_, _, _, _] [.le (.v 0) (.v 1), .le (.v 2) (.v 3)] (.a (.v 0) (.v 2)) (.a (.a (.v 1) (.v 3)) (.n 1)) (.refl true) ha hb)
  | .caseA v a c => by
    have ha := fkl_S a
    have hc := fkl_S c
    simp only [S.fk, S.cost, List.length_append, List.length_cons]
    exact (lin [_, _, _, _] [.le (.v 0) (.v 1), .le (.v 2) (.v 3)] (.a (.v 0) (.v 2)) (.a (.a (.v 1) (.v 3)) (.n 1)) (.refl true) ha hc)
  | .caseB v d a c => by
    have hd := fkl_S d
    have ha := fkl_S a
    have hc := fkl_S c
    simp only [S.fk, S.cost, List.length_append, List.length_cons]
    exact (lin [_, _, _, _, _, _] [.le (.v 0) (.v 1), .le (.v 2) (.v 3), .le (.v 4) (.v 5)] (.a (.v 0) (.a (.v 2) (.v 4))) (.a (.a (.a (.v 1) (.v 3)) (.v 5)) (.n 1)) (.refl true) hd ha hc)
  | .caseC v a d => by
    have ha := fkl_S a
    have hd := fkl_S d
    simp only [S.fk, S.cost, List.length_append, List.length_cons]
    exact (lin [_, _, _, _] [.le (.v 0) (.v 1), .le (.v 2) (.v 3)] (.a (.v 0) (.v 2)) (.a (.a (.v 3) (.v 1)) (.n 1)) (.refl true) hd ha)
  | .for_ q e t b => by
    have hb := fkl_S b
    simp only [S.fk, S.cost, List.length_append, List.length_cons]
    exact (lin [_, _] [.le (.v 0) (.v 1)] (.v 0) (.a (.v 1) (.n 1)) (.refl true) hb)
  | .while_ e b => by
    have hb := fkl_S b
    simp only [S.fk, S.cost, List.length_append, List.length_cons]
    exact (lin [_, _] [.le (.v 0) (.v 1)] (.v 0) (.a (.v 1) (.n 1)) (.refl true) hb)
  | .repeat_ e b => by
    have hb := fkl_S b
    simp only [S.fk, S.cost, List.length_append, List.length_cons]
    exact (lin [_, _] [.le (.v 0) (.v 1)] (.v 0) (.a (.v 1) (.n 1)) (.refl true) hb)
  | .forever b => by
    have hb := fkl_S b
    simp only [S.fk, S.cost, List.length_append, List.length_cons]
    exact (lin [_, _] [.le (.v 0) (.v 1)] (.v 0) (.a (.v 1) (.n 1)) (.refl true) hb)
  | .block l c => by
    have hl := fkl_L l
    simp only [S.fk, S.cost, List.length_append, List.length_cons]
    exact (lin [_, _] [.le (.v 0) (.v 1)] (.v 0) (.a (.v 1) (.n 1)) (.refl true) hl)
  | .fork l c => by
    have hl := fkl_L l
    simp only [S.fk, S.cost, List.length_append, List.length_cons]
    exact (lin [_, _] [.le (.v 0) (.v 1)] (.a (.v 0) (.n 1)) (.a (.v 1) (.n 1)) (.refl true) hl)
  | .delay e b => by
    have hb := fkl_S b
    simp only [S.fk, S.cost, List.length_append, List.length_cons]
    exact (lin [_, _] [.le (.v 0) (.v 1)] (.v 0) (.a (.v 1) (.n 1)) (.refl true) hb)
  | .wait e b => by
    have hb := fkl_S b
    simp only [S.fk, S.cost, List.length_append, List.length_cons]
    exact (lin [_, _] [.le (.v 0) (.v 1)] (.v 0) (.a (.v 1) (.n 1)) (.refl true) hb)
  | .await e b => by
    have hb := fkl_S b
    simp only [S.fk, S.cost, List.length_append, List.length_cons]
    exact (lin [_, _] [.le (.v 0) (.v 1)] (.v 0) (.a (.v 1) (.n 1)) (.refl true) hb)
theorem fkl_L : ∀ l : SL, l.fk.length ≤ l.cost
  | .nil => by
    simp only [SL.fk, SL.cost, List.length_append, List.length_nil]
    try exact (Nat.le_refl _)
  | .cons s r => by
    have hs := fkl_S s
    have hr := fkl_L r
    simp only [SL.fk, SL.cost, List.length_append, List.length_nil]
    try exact (lin [_, _, _, _] [.le (.v 0) (.v 1), .le (.v 2) (.v 3)] (.a (.v 0) (.v 2)) (.a (.v 1) (.v 3)) (.refl true) hs hr)
end
mutual
theorem actl_S : ∀ s : S, s.acts.length ≤ 12 * s.cost
  | .none => by
    simp [S.acts]
  | .pl q => by
    have := pl_acts q
    simp only [S.acts, S.cost]
    exact (lin [_] [.le (.v 0) (.n 3)] (.v 0) (.m 12 (.n 1)) (.refl true) this)
  | .ite e a b => by
    have ha := actl_S a
    have hb := actl_S b
    simp only [S.acts, S.cost, List.length_append, List.length_cons]
    exact (lin [_, _, _, _] [.le (.v 0) (.m 12 (.v 1)), .le (.v 2) (.m 12 (.v 3))] (.a (.v 0) (.v 2)) (.m 12 (.a (.a (.v 1) (.v 3)) (.n 1))) (.refl true) ha hb)
  | .caseA v a c => by
    have ha := actl_S a
    have hc := actl_S c
    have := vActs_len v
    simp only [S.acts, S.cost, List.length_append, List.length_cons]
    exact (lin [_, _, _, _, _] [.le (.v 0) (.n 1), .le (.v 1) (.m 12 (.v 2)), .le (.v 3) (.m 12 (.v 4))] (.a (.v 0) (.a (.v 1) (.v 3))) (.m 12 (.a (.a (.v 2) (.v 4)) (.n 1))) (.refl true) this ha hc)
  | .caseB v d a c => by
    have hd := actl_S d
    have ha := actl_S a
    have hc := actl_S c
    have := vActs_len v
    simp only [S.acts, S.cost, List.length_append, List.length_cons]
    exact (lin [_, _, _, _, _, _, _] [.le (.v 0) (.n 1), .le (.v 1) (.m 12 (.v 2)), .le (.v 3) (.m 12 (.v 4)), .le (.v 5) (.m 12 (.v 6))] (.a (.v 0) (.a (.v 1) (.a (.v 3) (.v 5)))) (.m 12 (.a (.a (.a (.v 2) (.v 4)) (.v 6)) (.n 1))) (.refl true) this hd ha hc)
  | .caseC v a d => by
    have ha := actl_S a
    have hd := actl_S d
    have := vActs_len v
    simp only [S.acts, S.cost, List.length_append, List.length_cons]
    exact (lin [_, _, _, _, _] [.le (.v 0) (.n 1), .le (.v 1) (.m 12 (.v 2)), .le (.v 3) (.m 12 (.v 4))] (.a (.v 0) (.a (.v 1) (.v 3))) (.m 12 (.a (.a (.v 4) (.v 2)) (.n 1))) (.refl true) this hd ha)
  | .for_ q e t b => by
    have hb := actl_S b
    have h1 := pl_acts q
    have h2 := pl_acts t
    simp only [S.acts, S.cost, List.length_append, List.length_cons]
    exact (lin [_, _, _, _] [.le (.v 0) (.n 3), .le (.v 1) (.m 12 (.v 2)), .le (.v 3) (.n 3)] (.a (.v 0) (.a (.v 1) (.v 3))) (.m 12 (.a (.v 2) (.n 1))) (.refl true) h1 hb h2)
  | .while_ e b => by
    have hb := actl_S b
    simp only [S.acts, S.cost, List.length_append, List.length_cons]
    exact (lin [_, _] [.le (.v 0) (.m 12 (.v 1))] (.v 0) (.m 12 (.a (.v 1) (.n 1))) (.refl true) hb)
  | .repeat_ e b => by
    have hb := actl_S b
    simp only [S.acts, S.cost, List.length_append, List.length_cons]
    exact (lin [_, _] [.le (.v 0) (.m 12 (.v 1))] (.v 0) (.m 12 (.a (.v 1) (.n 1))) (.refl true) hb)
  | .forever b => by
    have hb := actl_S b
    simp only [S.acts, S.cost, List.length_append, List.length_cons]
    exact (lin [_, _] [.le (.v 0) (.m 12 (.v 1))] (.v 0) (.m 12 (.a (.v 1) (.n 1))) (.refl true) hb)
  | .block l c => by
    have hl := actl_L l
    simp only [S.acts, S.cost, List.length_append, List.length_cons]
    exact (lin [_, _] [.le (.v 0) (.m 12 (.v 1))] (.v 0) (.m 12 (.a (.v 1) (.n 1))) (.refl true) hl)
  | .fork l c => by
    have hl := actl_L l
    simp only [S.acts, S.cost, List.length_append, List.length_cons]
    exact (lin [_, _] [.le (.v 0) (.m 12 (.v 1))] (.v 0) (.m 12 (.a (.v 1) (.n 1))) (.refl true) hl)
  | .delay e b => by
    have hb := actl_S b
    simp only [S.acts, S.cost, List.length_append, List.length_cons]
    exact (lin [_, _] [.le (.v 0) (.m 12 (.v 1))] (.a (.v 0) (.n 1)) (.m 12 (.a (.v 1) (.n 1))) (.refl true) hb)
  | .wait e b => by
    have hb := actl_S b
    simp only [S.acts, S.cost, List.length_append, List.length_cons]
    exact (lin [_, _] [.le (.v 0) (.m 12 (.v 1))] (.a (.v 0) (.n 1)) (.m 12 (.a (.v 1) (.n 1))) (.refl true) hb)
  | .await e b => by
    have hb := actl_S b
    simp only [S.acts, S.cost, List.length_append, List.length_cons]
    exact (lin [_, _] [.le (.v 0) (.m 12 (.v 1))] (.a (.v 0) (.n 1)) (.m 12 (.a (.v 1) (.n 1))) (.refl true) hb)
theorem actl_L : ∀ l : SL, l.acts.length ≤ 12 * l.cost
  | .nil => by
    simp only [SL.acts, SL.cost, List.length_append, List.length_nil]
    try exact (lin [] [] (.n 0) (.m 12 (.n 0)) (.refl true) )
  | .cons s r => by
    have hs := actl_S s
    have hr := actl_L r
    simp only [SL.acts, SL.cost, List.length_append, List.length_nil]
    try exact (lin [_, _, _, _] [.le (.v 0) (.m 12 (.v 1)), .le (.v 2) (.m 12 (.v 3))] (.a (.v 0) (.v 2)) (.m 12 (.a (.v 1) (.v 3))) (.refl true) hs hr)
end
mutual
theorem plain_S : ∀ s : S, s.acts.all (AV.plain 8) = true
  | .none => by
    rw [S.acts]
    rfl
  | .pl q => by
    rw [S.acts]
    exact pl_plain q
  | .ite e a b => by
    have ha := plain_S a
    have hb := plain_S b
    simp only [S.acts, List.all_append, ha, hb, Bool.and_self]
  | .caseA v a c => by
    have ha := plain_S a
    have hc := plain_S c
    simp only [S.acts, List.all_append, vActs_plain, ha, hc, Bool.and_self]
  | .caseB v d a c => by
    have hd := plain_S d
    have ha := plain_S a
    have hc := plain_S c
    simp only [S.acts, List.all_append, vActs_plain, hd, ha, hc, Bool.and_self]
  | .caseC v a d => by
    have ha := plain_S a
    have hd := plain_S d
    simp only [S.acts, List.all_append, vActs_plain, ha, hd, Bool.and_self]
  | .for_ q e t b => by
    have hb := plain_S b
    rw [S.acts, List.all_append, List.all_append, pl_plain, pl_plain, hb]
    rfl
  | .while_ e b => by
    have hb := plain_S b
    simp only [S.acts, List.all_append, hb, Bool.and_self]
  | .repeat_ e b => by
    have hb := plain_S b
    simp only [S.acts, List.all_append, hb, Bool.and_self]
  | .forever b => by
    have hb := plain_S b
    simp only [S.acts, List.all_append, hb, Bool.and_self]
  | .block l c => by
    have hl := plain_L l
    simp only [S.acts, List.all_append, hl, Bool.and_self]
  | .fork l c => by
    have hl := plain_L l
    simp only [S.acts, List.all_append, hl, Bool.and_self]
  | .delay e b => by
    have hb := plain_S b
    simp only [S.acts, List.all_cons, hb]
    rfl
  | .wait e b => by
    have hb := plain_S b
    simp only [S.acts, List.all_cons, hb]
    rfl
  | .await e b => by
    have hb := plain_S b
    simp only [S.acts, List.all_cons, hb]
    rfl
theorem plain_L : ∀ l : SL, l.acts.all (AV.plain 8) = true
  | .nil => by
    rw [SL.acts]
    rfl
  | .cons s r => by
    have hs := plain_S s
    have hr := plain_L r
    rw [SL.acts, List.all_append, hs, hr]
    rfl
end
theorem dp1 {a x k : Nat} (h : a ≤ 6 * x + 4) (hk : k ≤ 6 := by decide) : a + k ≤ 6 * (x + 1) + 4 := by exact (lin [_, _, _] [.le (.v 0) (.a (.m 6 (.v 1)) (.n 4)), .le (.v 2) (.n 6)] (.a (.v 0) (.v 2)) (.a (.m 6 (.a (.v 1) (.n 1))) (.n 4)) (.refl true) h hk)
theorem dp2 {a b x y : Nat} (h : a ≤ 6 * x + 4) (g : b ≤ 6 * y + 4) : max a b ≤ 6 * max x y + 4 :=
  Nat.max_le.2 ⟨Nat.le_trans h (Nat.add_le_add_right (Nat.mul_le_mul_left 6 (Nat.le_max_left _ _)) 4), Nat.le_trans g (Nat.add_le_add_right (Nat.mul_le_mul_left 6 (Nat.le_max_right _ _)) 4)⟩
mutual
theorem dep_S : ∀ s : S, s.dep ≤ 6 * s.hgt + 4
  | .none => by decide
  | .pl q => Nat.le_refl 4
  | .ite e a b => dp1 (dp2 (dep_S a) (dep_S b))
  | .caseA v a c => dp1 (dp2 (dep_S a) (dep_S c))
  | .caseB v d a c => dp1 (dp2 (dep_S d) (dp2 (dep_S a) (dep_S c)))
  | .caseC v a d => dp1 (dp2 (dep_S a) (dep_S d))
  | .for_ q e t b => dp1 (Nat.max_le.2 ⟨Nat.le_add_left _ _, dep_S b⟩)
  | .while_ e b => dp1 (dep_S b)
  | .repeat_ e b => dp1 (dep_S b)
  | .forever b => dp1 (dep_S b)
  | .block l c => dp1 (dep_L l)
  | .fork l c => dp1 (dep_L l)
  | .delay e b => dp1 (dep_S b)
  | .wait e b => dp1 (dep_S b)
  | .await e b => dp1 (dep_S b)
theorem dep_L : ∀ l : SL, l.dep ≤ 6 * l.hgt + 4
  | .nil => Nat.zero_le _
  | .cons s r => dp2 (dep_S s) (dep_L r)
end
end
-- P37
section
set_option maxHeartbeats 400000
open PySem
structure CodeOk (T : S) (b : Nat) (last : Row) (RS : List Row) (Λ : Nat → List Int) : Prop where
  eq : RS = T.rows 0 b ++ [last]
  len : RS.length ≤ 1000
  pos : 0 < RS.length
  l0 : Λ 0 = []
  flow : ∀ i r, RS[i]? = some r → Flow Λ RS.length i r
  ctx : ∀ i r, RS[i]? = some r → Ctx RS i r
  falls : last.falls = false
  seen : RS.filterMap Row.seen? = T.acts
  kept : RS.filterMap Row.kept? = (List.range T.nsl).map fun (j : Nat) => ((b : Int) + (j : Int))
  ops : RS.filterMap (opens RS) = T.op
  left : sortI (RS.filterMap Row.left?) = sortI (T.op.map (·.1))
  leftL : (RS.filterMap Row.left?).length < 64
  forks : RS.filterMap Row.fork? = T.fk
theorem code_ok (T : S) (b : Nat) (last : Row) (ht : T.thin) (hc : T.cost ≤ 20) (hh : T.hgt ≤ 20) (hl : last = .fin ∨ last = .ret ∨ last = .jump 0) : ∃ Λ, CodeOk T b last (T.rows 0 b ++ [last]) Λ := by
  have hlen := (mkS T).1
  have hbd := len_S T ht
  generalize hRS : T.rows 0 b ++ [last] = RS
  have hN : RS.length = T.len + 1 := by rw [← hRS]; simp [hlen]
  have A := seg (RS := RS) (Λ := fun a => ((T.labs [] ++ [[]])[a]?).getD []) (N := RS.length) T ht (by exact (lin [_] [.le (.v 0) (.n 20)] (.v 0) (.n 900) (.refl true) hh))
  have hL : AllAt (IsLab fun a => ((T.labs [] ++ [[]])[a]?).getD []) 0 (T.labs [] ++ [[]]) := AllAt_of fun i x e => by
    show ((T.labs [] ++ [[]])[0 + i]?).getD [] = x
    rw [Nat.zero_add, e]
    rfl
  have hR : AllAt (IsRow RS) 0 (T.rows 0 b) := AllAt_of fun i r e => by
    show RS[0 + i]? = some r
    have hi := (List.getElem?_eq_some_iff.mp e).1
    rw [Nat.zero_add, ← hRS, List.getElem?_append_left hi]
    exact e
  have G := A.ok 0 b [] (by simp; exact (lin [_] [.le (.v 0) (.n 20)] (.v 0) (.n 900) (.refl true) hh)) hR hL (by exact (linl [_, _] [.qe (.a (.v 0) (.n 1)) (.v 1)] (.a (.n 0) (.v 0)) (.v 1) (.refl true) hN))
  obtain ⟨z0, z1⟩ := A.ends hL
  refine ⟨fun a => ((T.labs [] ++ [[]])[a]?).getD [], ?_⟩
  have good : ∀ i r, RS[i]? = some r → GoodR RS (fun a => ((T.labs [] ++ [[]])[a]?).getD []) RS.length i r := fun i r e => by
    by_cases hi : i < T.len
    · have e2 : (T.rows 0 b)[i]? = some r := by
        rw [← hRS, List.getElem?_append_left (by rw [hlen]; exact hi)] at e
        exact e
      have := AllAt_get G e2
      rw [Nat.zero_add] at this
      exact this
    · have hi2 := (List.getElem?_eq_some_iff.mp e).1
      have e3 : i = T.len := by exact (Nat.le_antisymm (lin [_, _, _] [.lt (.v 0) (.v 1), .eq (.v 1) (.a (.v 2) (.n 1))] (.v 0) (.v 2) (.refl true) hi2 hN) (Nat.le_of_not_lt hi))
      subst e3
      have e4 : r = last := by
        rw [← hRS, List.getElem?_append_right (by rw [hlen]; exact Nat.le_refl _), hlen] at e
        simpa using e.symm
      subst e4
      rw [Nat.zero_add] at z1
      rcases hl with rfl | rfl | rfl
      · exact good_fin z1
      · exact good_ret z1
      · exact good_jump (j := 0) z1 z0 (by exact (linl [_, _] [.qe (.a (.v 0) (.n 1)) (.v 1)] (.n 0) (.v 1) (.refl true) hN)) (by simp)
  have hop : (T.rows 0 b).filterMap (opens RS) = T.op := op_S T 0 b ht hR
  have ho := opl_S T
  have hleft := left_S T 0 b
  have nl : last.seen? = none ∧ last.kept? = none ∧ opens RS last = none ∧ last.left? = none ∧ last.fork? = none ∧ last.falls = false := by
    rcases hl with rfl | rfl | rfl <;> exact ⟨rfl, rfl, rfl, rfl, rfl, rfl⟩
  obtain ⟨n1, n2, n3, n4, n5, n6⟩ := nl
  have eleft : RS.filterMap Row.left? = (T.rows 0 b).filterMap Row.left? := by rw [← hRS]; simp [List.filterMap_cons, n4]
  refine ⟨hRS.symm, by omega, by exact (linl [_, _] [.qe (.a (.v 0) (.n 1)) (.v 1)] (.n 0) (.v 1) (.refl true) hN), z0, fun i r e => (good i r e).1, fun i r e => (good i r e).2, n6, ?_, ?_, ?_, ?_, ?_, ?_⟩
  · rw [← hRS, List.filterMap_append, seen_S]
    simp [List.filterMap_cons, n1]
  · rw [← hRS, List.filterMap_append, kept_S]
    simp [List.filterMap_cons, n2, slots]
  · have : RS.filterMap (opens RS) = (T.rows 0 b ++ [last]).filterMap (opens RS) := by rw [hRS]
    rw [this, List.filterMap_append, hop]
    simp [List.filterMap_cons, n3]
  · rw [eleft]
    exact sortI_of hleft
  · rw [eleft, hleft.length_eq, List.length_map]
    exact (linl [_, _] [.le (.v 0) (.v 1), .le (.v 1) (.n 20)] (.v 0) (.n 64) (.refl true) ho hc)
  · rw [← hRS, List.filterMap_append, fk_S]
    simp [List.filterMap_cons, n5]
end
-- P38
section
set_option maxHeartbeats 1000000
open PySem
theorem c_law_bag {W n : Nat} {ns : List Int} {Q : AV → Store → Prop} (h : ∀ σ' b y l, σ'[b]? = some (bagL 0 y l) → Q (.cell b) σ') : W2 (run W ns (n + 1) .law_bag [.script] []) Q := by
  refine enter ?_
  refine newL fun vq1 vs1 vF1 vl1 vg1 => ?_; refine newL fun vq2 vs2 vF2 vl2 vg2 => ?_; refine q_sliceL (by tm_at "l") (by decide) ?_; refine newL fun vq3 vs3 vF3 vl3 vg3 => ?_; refine gL (by tm_at "l") ?_
  have e12 : vq3 ≠ vq1 := by tm_at "n"
  have hL : (List.map AV.int ns).take (Int.toNat 20) = (ns.take 20).map AV.int := by rw [List.map_take]; rfl
  have hl : ((List.map AV.int ns).take (Int.toNat 20)).length ≤ 20 := by rw [hL]; simp; exact (Nat.min_le_left _ _)
  have hm : ∀ v ∈ (List.map AV.int ns).take (Int.toNat 20), ∃ i, v = AV.int i := fun v hv => by
    rw [hL] at hv
    obtain ⟨i, zz, e⟩ := List.mem_map.mp hv
    exact ⟨i, e.symm⟩
  generalize (List.map AV.int ns).take (Int.toNat 20) = LL at *
  refine l_inv (fun l ρ σ => (∃ x y t, ρ = [some .script, some (.cell vq1), x, none, none] ∧ σ[vq1]? = some (bagL 0 y t) ∧ t.length + l.length ≤ 20) ∧ σ[vq3]? = some (.list LL) ∧ ∀ v ∈ l, ∃ i, v = AV.int i) ?_ ?_ ?_ _ _ _ ⟨⟨none, 1, [], rfl, get_congr (l := [.int 0, .int 1]) (by tm_at "l") rfl, by simpa using hl⟩, vg3, hm⟩
  · intro l ρ σ P h p
    exact ⟨h.2.1, p⟩
  · intro v l ρ σ Q' vQ ⟨⟨x, y, t, hρ, hb, ht⟩, hc, hm⟩
    subst hρ
    obtain ⟨i, rfl⟩ := hm v List.mem_cons_self
    simp only [List.length_cons] at ht
    have hlen : (AV.int 0 :: AV.int y :: List.map AV.int t).length < lim := by simp [lim]; exact (linl [_, _] [.le (.a (.v 0) (.a (.v 1) (.n 1))) (.n 20)] (.a (.a (.v 0) (.n 1)) (.n 1)) (.n 1048576) (.refl true) ht)
    refine app1 (by tm_at "l") (by tm_at "w") ?_; refine gL (by tm_at "l") ?_; refine q_mul (by first | decide | (left; decide) | (right; decide)) ?_; refine q_mod (by first | assumption | decide | omega) ?_; refine q_mod (by first | assumption | decide | omega) ?_; refine y_list (by tm_at "l") (by tm_at "w") ?_; refine vQ _ _ _ ?_
    exact ⟨⟨_, (y * 31 + i.fmod 9973 + 1).fmod 1000003, t ++ [i], rfl, get_congr (by tm_at "l") (by simp), by simp; exact (lin [_, _] [.le (.a (.v 0) (.a (.v 1) (.n 1))) (.n 20)] (.a (.a (.v 0) (.n 1)) (.v 1)) (.n 20) (.refl true) ht)⟩, by tm_at "l", fun v hv => hm v (List.mem_cons_of_mem _ hv)⟩
  · intro ρ σ ⟨⟨x, y, t, hρ, hb, ht⟩, hc, _⟩
    subst hρ
    skip
    exact h σ _ _ _ hb
end
-- P39
section
set_option maxHeartbeats 2000000
open PySem
theorem c_routine' {W n : Nat} {ns : List Int} {σ : Store} {t sl b : Nat} {L : List (Nat × AV)} {K : Cls} {s : S} {o : Option Nat} {l : List AV} {Q : AV → Store → Prop} (ht : σ[t]? = some (.obj K L)) (hb : lookN 55 L = some s.av) (hk : lookN 56 L = some (.cell sl)) (hsl : σ[sl]? = some (.list l)) (hl0 : l.length = b) (hd : s.dep ≤ n) (hl : s.len ≤ 1000)
    (h : ∀ σ' c, Fm [] σ σ' → σ.length ≤ c → σ'[c]? = some (.list (((S.block (.cons s .nil) o).rows 0 b ++ [Row.ret]).map Row.av)) → Q (.tup [.cell c, .int (b + s.nsl : Nat)]) σ') : W2 (run (W + 2) ns (n + 4) .compile_routine [.cell t, .int (scI o)] σ) Q := by
  subst hl0
  exact c_routine ht hb hk hsl hd hl h
theorem last_rows {pre : List Row} {last : Row} : ((pre ++ [last]).map Row.av).getLast? = some last.av := by rw [List.map_append]; exact List.getLast?_concat
theorem plain_pairs (l : List (Int × Nat)) (h : ∀ p ∈ l, p.2 < 70) : (l.map pairAV).all (AV.plain 8) = true := by
  rw [List.all_map, List.all_eq_true]
  intro p hp
  simp [pairAV, AV.plain, h p hp]
mutual
theorem tags_S : ∀ (s : S), ∀ p ∈ s.op, p.2 < 70
  | .none, p, h => by simp [S.op] at h
  | .pl q, p, h => by simp [S.op] at h
  | .ite e a b, p, h => by rw [S.op] at h; exact (List.mem_append.mp h).elim (tags_S a p) (tags_S b p)
  | .caseA v a c, p, h => by rw [S.op] at h; exact (List.mem_append.mp h).elim (tags_S a p) (tags_S c p)
  | .caseB v d a c, p, h => by rw [S.op] at h; exact (List.mem_append.mp h).elim (tags_S d p) fun h => (List.mem_append.mp h).elim (tags_S a p) (tags_S c p)
  | .caseC v a d, p, h => by rw [S.op] at h; exact (List.mem_append.mp h).elim (tags_S d p) (tags_S a p)
  | .for_ q e t b, p, h => by rw [S.op] at h; exact tags_S b p h
  | .while_ e b, p, h => by rw [S.op] at h; exact tags_S b p h
  | .repeat_ e b, p, h => by rw [S.op] at h; exact tags_S b p h
  | .forever b, p, h => by rw [S.op] at h; exact tags_S b p h
  | .block l none, p, h => by rw [S.op] at h; exact tags_L l p (by simpa [scOp] using h)
  | .block l (some c), p, h => by
    rw [S.op] at h
    rcases List.mem_append.mp h with h | h
    · simp [scOp] at h; subst h; simp
    · exact tags_L l p h
  | .fork l none, p, h => by rw [S.op] at h; exact tags_L l p (by simpa [scOp] using h)
  | .fork l (some c), p, h => by
    rw [S.op] at h
    rcases List.mem_append.mp h with h | h
    · simp [scOp] at h; subst h; simp
    · exact tags_L l p h
  | .delay e b, p, h => by rw [S.op] at h; exact tags_S b p h
  | .wait e b, p, h => by rw [S.op] at h; exact tags_S b p h
  | .await e b, p, h => by rw [S.op] at h; exact tags_S b p h
theorem tags_L : ∀ (l : SL), ∀ p ∈ l.op, p.2 < 70
  | .nil, p, h => by simp [SL.op] at h
  | .cons s r, p, h => by rw [SL.op] at h; exact (List.mem_append.mp h).elim (tags_S s p) (tags_L r p)
end
theorem law_tail {w : Nat} {ns : List Int} (hw : 6000 < w) {B T : S} {σ : Store} {A F f0 f1 c g : Nat} {P0 : List (Int × Nat)} {last : Row} {Λ : Nat → List Int} {RS : List Row} {v0 v1 v2 v3 v4 v8 v13 : Option AV} {gI kI : Int} {bv : AV} {LL O0 : List AV}
    (hA : ActsOk bv B.dep B.acts B.op B.fk) (hd : B.dep ≤ 60) (eA : T.acts = B.acts) (eO : T.op = P0 ++ B.op) (eF : T.fk = B.fk) (CO : CodeOk T g last RS Λ) (hgI : gI = (g : Nat)) (hkI : kI = (g + T.nsl : Nat)) (hg : g ≤ 10) (hk : T.nsl < 64) (hop : T.op.length < 64) (hac : B.acts.length ≤ 1000) (hfk : B.fk.length ≤ 1000)
    (ha : σ[A]? = some (.list [])) (hF : σ[F]? = some (.list [.cell f0, .cell f1])) (hO0 : O0 = P0.map pairAV) (h0 : σ[f0]? = some (.list O0)) (h1 : σ[f1]? = some (.list [])) (hc : σ[c]? = some (.list (RS.map Row.av)))
    (e1 : A ≠ F) (e2 : A ≠ f0) (e3 : A ≠ f1) (e4 : F ≠ f0) (e5 : F ≠ f1) (e6 : f0 ≠ f1) (cA : c ≠ A) (c0 : c ≠ f0) (c1 : c ≠ f1) (hla : last.av = .tup LL) (hpl : AV.plain 8 (.tup LL) = true) :
    wpB w ns (run w ns 60) ir_law_tail [v0, v1, v2, v3, v4, some bv, some (.cell A), some (.cell F), v8, some (.int gI), some (.cell c), some (.int kI), some (.tup LL), v13, none, none, none, none, none, none, none, none, none, none] σ (retQ fun v zz => v = .bool true) := by
  subst hgI
  subst hkI
  subst hO0
  have lO : P0.length + B.op.length < 64 := by rw [← List.length_append, ← eO]; exact hop
  skip
  refine hA w 60 ns A F f0 f1 [] (P0.map pairAV) [] _ _ hd (by tm_at "l") (by tm_at "l") (by tm_at "l") (by tm_at "l") e1 e2 e3 e4 e5 e6 (by rw [List.length_nil]; exact (lin [_] [.le (.v 0) (.n 1000)] (.a (.n 0) (.v 0)) (.n 1000000) (.refl true) hac)) (by rw [List.length_map]; exact (lin [_, _] [.lt (.a (.v 0) (.v 1)) (.n 64)] (.a (.v 0) (.v 1)) (.n 1000000) (.refl true) lO)) (by rw [List.length_nil]; exact (lin [_] [.le (.v 0) (.n 1000)] (.a (.n 0) (.v 0)) (.n 1000000) (.refl true) hfk)) fun σ8 F8 ha8 h08 h18 => ?_
  have ha8 : σ8[A]? = some (.list T.acts) := eA ▸ ha8
  have h08 : σ8[f0]? = some (.list (T.op.map pairAV)) := by rw [h08, eO, List.map_append]
  have h18 : σ8[f1]? = some (.list (natL T.fk)) := eF ▸ h18
  have hc8 : σ8[c]? = some (.list (RS.map Row.av)) := by tm_at "l"
  have hF8 : σ8[F]? = some (.list [.cell f0, .cell f1]) := by tm_at "l"
  clear ha h0 h1 hc F8 hF
  have hql : (RS.map Row.av).getLast? = some (.tup LL) := by rw [← hla, CO.eq]; exact last_rows
  skip
  refine c_target_faults (n := 58) (Λ := Λ) (by tm_at "l") CO.flow CO.len (last := last) (pre := T.rows 0 g) CO.eq CO.falls fun σ9 q9 F9 hq9 => ?_
  refine newL fun vq1 vs1 vF1 vl1 vg1 => ?_
  refine e_cells (x := []) (y := []) (by tm_at "l") (by tm_at "l") rfl rfl ?_
  refine nk_y (decide_eq_true rfl) ?_
  refine gL (by tm_at "l") ?_; refine lastK_of (by assumption) ?_
  refine e_self (a := .tup LL) hpl ?_
  skip
  refine c_scope_faults (n := 58) (Λ := Λ) (by tm_at "l") CO.flow CO.len CO.pos hw CO.l0 fun σ10 q10 F10 hq10 => ?_
  refine newL fun vq2 vs2 vF2 vl2 vg2 => ?_
  refine e_cells (x := []) (y := []) (by tm_at "l") (by tm_at "l") rfl rfl ?_
  skip
  exact c_law_shape (n := 58) (by tm_at "l") (by tm_at "l") (by tm_at "l") (by tm_at "l") (by tm_at "l") CO.ctx CO.len CO.seen CO.kept CO.ops CO.left CO.forks hk hg hop CO.leftL (plain_S T) (plain_pairs _ (tags_S T)) fun σ' => rfl
theorem int23 {g : Int} (a : g < 4) (b : ¬ g < 2) : g = 2 ∨ g = 3 := by omega
theorem law_walk (w : Nat) (hw : 6000 < w + 2) (ns : List Int) : W2 (runLaw (w + 2) ns 60) fun v zz => v = .bool true := by
  refine enterLaw ?_
  skip
  refine c_law_bag fun σ1 b y l hb1 => ?_
  skip
  refine c_law_pull hb1 (by decide) fun σ2 sort x2 y2 l2 g0 g1 F2 hb2 => ?_
  refine newL fun vq1 vs1 vF1 vl1 vg1 => ?_
  have hbs : b ≠ vq1 := Ne.symm (by tm_at "n")
  have hs1 : vs1[vq1]? = some (shopL 10 8 2) := vg1
  refine tree 3 50 (w + 2) ns _ b vq1 _ _ _ _ _ _ _ _ rfl (by tm_at "l") hs1 hbs fun σ3 t3 a3 u3 d3 x3 y3 l3 F3 hb3 hs3 c3 g3 w3 => ?_
  skip
  refine tree 3 50 (w + 2) ns _ b vq1 _ _ _ _ _ _ _ _ rfl (by tm_at "l") (by tm_at "l") hbs fun σ4 t4 a4 u4 d4 x4 y4 l4 F4 hb4 hs4 c4 g4 w4 => ?_
  skip
  refine tree 3 50 (w + 2) ns _ b vq1 _ _ _ _ _ _ _ _ rfl (by tm_at "l") (by tm_at "l") hbs fun σ5 t5 a5 u5 d5 x5 y5 l5 F5 hb5 hs5 c5 g5 w5 => ?_
  refine newL fun vq2 vs2 vF2 vl2 vg2 => ?_; refine newL fun vq3 vs3 vF3 vl3 vg3 => ?_; refine newL fun vq4 vs4 vF4 vl4 vg4 => ?_; refine newL fun vq5 vs5 vF5 vl5 vg5 => ?_; refine newL fun vq6 vs6 vF6 vl6 vg6 => ?_; refine newL fun vq7 vs7 vF7 vl7 vg7 => ?_; refine newL fun vq8 vs8 vF8 vl8 vg8 => ?_
  clear hb1 hb2 hs1 hb3 hs3 hb4 hs4 hs5 F2 F3 F4 vF1 vl1 vg1 F5
  obtain ⟨B, hB⟩ : ∃ B, B = S.block (.cons (.fork (.cons t3 (.cons t4 .nil)) (some 1)) (.cons t5 .nil)) (some 0) := ⟨_, rfl⟩
  have hav : B.av = .tup [.str 43, .tup [.tup [.str 18, .tup [t3.av, t4.av], .int 1], t5.av], .int 0] := by subst hB; simp [S.av, SL.avs, scI]
  have hthin : B.thin := by subst hB; simp [S.thin, SL.thin, SL.num, w3, w4, w5]
  have hcost : B.cost ≤ 10 := by subst hB; simp only [S.cost, SL.cost]; exact (lin [_, _, _, _, _, _] [.le (.a (.v 0) (.v 1)) (.n 8), .le (.a (.v 2) (.v 3)) (.v 1), .le (.a (.v 4) (.v 5)) (.v 3)] (.a (.a (.a (.a (.v 0) (.a (.v 2) (.n 0))) (.n 1)) (.a (.v 4) (.n 0))) (.n 1)) (.n 10) (.refl true) c3 c4 c5)
  have hhgt : B.hgt ≤ 6 := by
    subst hB
    exact Nat.succ_le_succ (Nat.max_le.2 ⟨Nat.succ_le_succ (Nat.max_le.2 ⟨(by exact (lin [_] [.le (.v 0) (.n 3)] (.v 0) (.n 4) (.refl true) g3) : t3.hgt ≤ 4), Nat.max_le.2 ⟨(by exact (lin [_] [.le (.v 0) (.n 3)] (.v 0) (.n 4) (.refl true) g4) : t4.hgt ≤ 4), Nat.zero_le _⟩⟩), Nat.max_le.2 ⟨(by exact (lin [_] [.le (.v 0) (.n 3)] (.v 0) (.n 5) (.refl true) g5) : t5.hgt ≤ 5), Nat.zero_le _⟩⟩)
  clear hB c3 c4 c5 g3 g4 g5 w3 w4 w5
  have hdep : B.dep ≤ 50 := by have := dep_S B; omega
  have hlen : B.len ≤ 1000 := Nat.le_trans (len_S B hthin) (Nat.le_trans (Nat.mul_le_mul_left 12 hcost) (by decide))
  have hal := actl_S B
  have hol := opl_S B
  have hfl := fkl_S B
  have hnl := nsl_S B
  have hnsl : B.nsl < 64 := by exact (linl [_, _] [.le (.v 0) (.m 2 (.v 1)), .le (.v 1) (.n 10), .le (.v 1) (.n 10)] (.v 0) (.n 64) (.refl true) hnl hcost hcost)
  have hacl : B.acts.length ≤ 1000 := Nat.le_trans hal (Nat.le_trans (Nat.mul_le_mul_left 12 hcost) (by decide))
  have hopB : B.op.length < 64 := by exact (linl [_, _] [.le (.v 0) (.v 1), .le (.v 1) (.n 10)] (.v 0) (.n 64) (.refl true) hol hcost)
  have hopB' : B.op.length < 63 := by exact (linl [_, _] [.le (.v 0) (.v 1), .le (.v 1) (.n 10)] (.v 0) (.n 63) (.refl true) hol hcost)
  have hA : ActsOk _ B.dep B.acts B.op B.fk := acS B
  rw [hav] at hA
  have e32 : vq3 ≠ vq2 := by tm_at "n"
  have e42 : vq4 ≠ vq2 := by tm_at "n"
  have e43 : vq4 ≠ vq3 := by tm_at "n"
  have e52 : vq5 ≠ vq2 := by tm_at "n"
  have e53 : vq5 ≠ vq3 := by tm_at "n"
  have e54 : vq5 ≠ vq4 := by tm_at "n"
  have e62 : vq6 ≠ vq2 := by tm_at "n"
  have e63 : vq6 ≠ vq3 := by tm_at "n"
  have e64 : vq6 ≠ vq4 := by tm_at "n"
  have e65 : vq6 ≠ vq5 := by tm_at "n"
  have e72 : vq7 ≠ vq2 := by tm_at "n"
  have e73 : vq7 ≠ vq3 := by tm_at "n"
  have e74 : vq7 ≠ vq4 := by tm_at "n"
  have e75 : vq7 ≠ vq5 := by tm_at "n"
  have e76 : vq7 ≠ vq6 := by tm_at "n"
  have e82 : vq8 ≠ vq2 := by tm_at "n"
  have e83 : vq8 ≠ vq3 := by tm_at "n"
  have e84 : vq8 ≠ vq4 := by tm_at "n"
  have e85 : vq8 ≠ vq5 := by tm_at "n"
  have e86 : vq8 ≠ vq6 := by tm_at "n"
  have e87 : vq8 ≠ vq7 := by tm_at "n"
  have e8b : vq8 ≠ b := by tm_at "n"
  have e3b : vq3 ≠ b := by tm_at "n"
  refine c_thInit (c1 := vq6) (c2 := vq7) (by tm_at "l") fun σ6 c3 c4 c5 F6 ho => ?_
  refine gO (by tm_at "l") ?_; refine if_d (fun vh => ?_) (fun vh => ?_); rotate_left; rotate_left
  · rcases int2 g0 vh with rfl | rfl
    · refine x_tup (by tm_at "s") ?_; refine gO (by tm_at "l") ?_
      obtain ⟨Λ, CO⟩ := code_ok B 0 (lastP false) hthin (by exact (lin [_] [.le (.v 0) (.n 10)] (.v 0) (.n 20) (.refl true) hcost)) (by exact (lin [_] [.le (.v 0) (.n 6)] (.v 0) (.n 20) (.refl true) hhgt)) (.inl rfl)
      refine c_process (s := B) (kd := false) (by tm_at "l") (by rw [hav]; rfl) rfl (by exact (lin [_] [.le (.v 0) (.n 50)] (.v 0) (.n 58) (.refl true) hdep)) hlen fun σ7 c F7 hcn hc7 => ?_
      have ec2 : c ≠ vq2 := by tm_at "n"
      have ec3 : c ≠ vq3 := by tm_at "n"
      have ec4 : c ≠ vq4 := by tm_at "n"
      refine x_tup (by tm_at "s") ?_
      exact law_tail (P0 := []) (O0 := []) hw hA (by exact (lin [_] [.le (.v 0) (.n 50)] (.v 0) (.n 60) (.refl true) hdep)) rfl rfl rfl CO rfl (by rw [Nat.zero_add]) (by decide) hnsl hopB hacl (by exact (lin [_, _] [.le (.v 0) (.v 1), .le (.v 1) (.n 10)] (.v 0) (.n 1000) (.refl true) hfl hcost)) (by tm_at "l") (by tm_at "l") rfl (by tm_at "l") (by tm_at "l") hc7 e52.symm e32.symm e42.symm e53 e54 e43.symm ec2 ec3 ec4 rfl rfl
    · refine x_tup (by tm_at "s") ?_; refine gO (by tm_at "l") ?_
      obtain ⟨Λ, CO⟩ := code_ok B 0 (lastP true) hthin (by exact (lin [_] [.le (.v 0) (.n 10)] (.v 0) (.n 20) (.refl true) hcost)) (by exact (lin [_] [.le (.v 0) (.n 6)] (.v 0) (.n 20) (.refl true) hhgt)) (.inr (.inr rfl))
      refine c_process (s := B) (kd := true) (by tm_at "l") (by rw [hav]; rfl) rfl (by exact (lin [_] [.le (.v 0) (.n 50)] (.v 0) (.n 58) (.refl true) hdep)) hlen fun σ7 c F7 hcn hc7 => ?_
      have ec2 : c ≠ vq2 := by tm_at "n"
      have ec3 : c ≠ vq3 := by tm_at "n"
      have ec4 : c ≠ vq4 := by tm_at "n"
      refine x_tup (by tm_at "s") ?_
      exact law_tail (P0 := []) (O0 := []) hw hA (by exact (lin [_] [.le (.v 0) (.n 50)] (.v 0) (.n 60) (.refl true) hdep)) rfl rfl rfl CO rfl (by rw [Nat.zero_add]) (by decide) hnsl hopB hacl (by exact (lin [_, _] [.le (.v 0) (.v 1), .le (.v 1) (.n 10)] (.v 0) (.n 1000) (.refl true) hfl hcost)) (by tm_at "l") (by tm_at "l") rfl (by tm_at "l") (by tm_at "l") hc7 e52.symm e32.symm e42.symm e53 e54 e43.symm ec2 ec3 ec4 rfl rfl
  · rcases int23 g1 vh with rfl | rfl
    · skip
      refine c_law_pull (by tm_at "l") (by decide) fun σ9 got x9 y9 l9 p9 q9 F9 hb9 => ?_
      obtain ⟨g, rfl⟩ := Int.eq_ofNat_of_zero_le p9
      have hg4 : g < 4 := Int.ofNat_lt.mp q9
      have hg64 : 0 ≤ (g : Int) ∧ (g : Int) ≤ 64 := ⟨p9, Int.ofNat_le.mpr (by exact (lin [_] [.lt (.v 0) (.n 4)] (.v 0) (.n 64) (.refl true) hg4))⟩
      refine newL fun vq9 vs9 vF9 vl9 vg9 => ?_; refine q_mulL (by tm_at "l") (by first | assumption | omega) ?_; refine newL fun vq10 vs10 vF10 vl10 vg10 => ?_; refine gO (by tm_at "l") ?_
      obtain ⟨Λ, CO⟩ := code_ok (S.block (.cons B .nil) none) g Row.ret ⟨hthin, trivial⟩ (by simp only [S.cost, SL.cost]; exact (lin [_] [.le (.v 0) (.n 10)] (.a (.a (.v 0) (.n 0)) (.n 1)) (.n 20) (.refl true) hcost)) (Nat.succ_le_succ (m := 19) (Nat.max_le.2 ⟨(by exact (lin [_] [.le (.v 0) (.n 6)] (.v 0) (.n 19) (.refl true) hhgt) : B.hgt ≤ 19), Nat.zero_le _⟩)) (.inr (.inl rfl))
      refine c_routine' (s := B) (o := none) (b := g) (by tm_at "l") (by rw [hav]; rfl) rfl (by tm_at "l") (by simp) (n := 56) (by exact (lin [_] [.le (.v 0) (.n 50)] (.v 0) (.n 56) (.refl true) hdep)) hlen fun σ7 c F7 hcn hc7 => ?_
      have ec2 : c ≠ vq2 := by tm_at "n"
      have ec3 : c ≠ vq3 := by tm_at "n"
      have ec4 : c ≠ vq4 := by tm_at "n"
      skip
      exact law_tail (P0 := []) (O0 := []) hw hA (by exact (lin [_] [.le (.v 0) (.n 50)] (.v 0) (.n 60) (.refl true) hdep)) (List.append_nil _) (List.append_nil _) (List.append_nil _) CO rfl rfl (by exact (lin [_] [.lt (.v 0) (.n 4)] (.v 0) (.n 10) (.refl true) hg4)) hnsl (by rw [S.op, SL.op, SL.op, List.append_nil]; exact hopB) hacl (by exact (lin [_, _] [.le (.v 0) (.v 1), .le (.v 1) (.n 10)] (.v 0) (.n 1000) (.refl true) hfl hcost)) (by tm_at "l") (by tm_at "l") rfl (by tm_at "l") (by tm_at "l") hc7 e52.symm e32.symm e42.symm e53 e54 e43.symm ec2 ec3 ec4 rfl rfl
    · skip
      refine c_law_pull (by tm_at "l") (by decide) fun σ9 got x9 y9 l9 p9 q9 F9 hb9 => ?_
      obtain ⟨g, rfl⟩ := Int.eq_ofNat_of_zero_le p9
      have hg4 : g < 4 := Int.ofNat_lt.mp q9
      have hg64 : 0 ≤ (g : Int) ∧ (g : Int) ≤ 64 := ⟨p9, Int.ofNat_le.mpr (by exact (lin [_] [.lt (.v 0) (.n 4)] (.v 0) (.n 64) (.refl true) hg4))⟩
      refine newL fun vq9 vs9 vF9 vl9 vg9 => ?_; refine q_mulL (by tm_at "l") (by first | assumption | omega) ?_; refine newL fun vq10 vs10 vF10 vl10 vg10 => ?_; refine gO (by tm_at "l") ?_; refine gL (by tm_at "l") ?_; refine app1 (by tm_at "l") (by tm_at "w") ?_
      obtain ⟨Λ, CO⟩ := code_ok (S.block (.cons B .nil) (some 2)) g Row.ret ⟨hthin, trivial⟩ (by simp only [S.cost, SL.cost]; exact (lin [_] [.le (.v 0) (.n 10)] (.a (.a (.v 0) (.n 0)) (.n 1)) (.n 20) (.refl true) hcost)) (Nat.succ_le_succ (m := 19) (Nat.max_le.2 ⟨(by exact (lin [_] [.le (.v 0) (.n 6)] (.v 0) (.n 19) (.refl true) hhgt) : B.hgt ≤ 19), Nat.zero_le _⟩)) (.inr (.inl rfl))
      refine c_routine' (s := B) (o := (some 2)) (b := g) (by tm_at "l") (by rw [hav]; rfl) rfl (by tm_at "l") (by simp) (n := 56) (by exact (lin [_] [.le (.v 0) (.n 50)] (.v 0) (.n 56) (.refl true) hdep)) hlen fun σ7 c F7 hcn hc7 => ?_
      have ec2 : c ≠ vq2 := by tm_at "n"
      have ec3 : c ≠ vq3 := by tm_at "n"
      have ec4 : c ≠ vq4 := by tm_at "n"
      skip
      exact law_tail (T := S.block (.cons B .nil) (some 2)) (P0 := [(2, 22)]) (O0 := [.tup [.int 2, .str 22]]) hw hA (by exact (lin [_] [.le (.v 0) (.n 50)] (.v 0) (.n 60) (.refl true) hdep)) (List.append_nil _) (congrArg (fun x => [(2, 22)] ++ x) (List.append_nil B.op)) (List.append_nil _) CO rfl rfl (by exact (lin [_] [.lt (.v 0) (.n 4)] (.v 0) (.n 10) (.refl true) hg4)) hnsl (by rw [S.op, SL.op, SL.op, List.append_nil]; exact Nat.succ_le_succ hopB') hacl (by exact (lin [_, _] [.le (.v 0) (.v 1), .le (.v 1) (.n 10)] (.v 0) (.n 1000) (.refl true) hfl hcost)) (by tm_at "l") (by tm_at "l") rfl (by tm_at "l") (by tm_at "l") hc7 e52.symm e32.symm e42.symm e53 e54 e43.symm ec2 ec3 ec4 rfl rfl
theorem law_true : ∀ ns : List Int, ns.length ≤ 63 → ∃ W n σ, n ≤ 100 ∧ runLaw W ns n = some (.bool true, σ) := fun ns zz => by
  obtain ⟨v, σ, e, h⟩ := law_walk 6000 (by decide) ns
  subst h
  exact ⟨_, _, _, by decide, e⟩
end
end Mine
-- F2b
section
open PySem PySem.W PyProof.Rows PySem.Calls
set_option maxHeartbeats 8000000
namespace Mine
theorem law_true' (ns : List Int) (h : ¬ ((63 : Nat) : Int) < (ns.length : Int)) : ns.length ≤ 63 ∧ ∃ W n σ, n ≤ 100 ∧ runLaw W ns n = some (.bool true, σ) := by
  have : ns.length ≤ 63 := by omega
  exact ⟨this, law_true ns this⟩
end Mine
open Mine
theorem PySem.Challenge.cw_sj0049_01_holds : PySem.Challenge.rw_sj0049_01.Holds := by
  w_on
  refine holds_law (by decide +kernel) fun said => ?_
  refine holds_open (q := q0) (loose := [Str.ofString "compile_routine"]) (Xt := fun s => xlAt q0 [] s && recOk (RowW.records (OpenRow.toRowW (PySem.Challenge.rw_sj0049_01.row))) s) (XP := XL q0 []) (Yf := Hook.obs factHook) (Ya := Hook.val factHook) (YP := Hook.says factHook) (N := 3662) left0 (Hook.of factHook) (Hook.keeps factHook) (fun s e => xl_of s (Bool.and_eq_true_iff.mp e).1) XL.keeps (by rfl) (by rfl) (by rfl) (fun s e => recFacts_of (Bool.and_eq_true_iff.mp e).2) (by rfl) (by first | assumption | decide +kernel) (by decide +kernel) ⟨rfl, rfl, rfl, rfl, rfl, by decide +kernel⟩ ?hw ?hc
  case hw => w_witness2
  case hc =>
    intro w s₀ s₁ mg mb G Y fa o pm cd doc dV kV ho hd hcd hD hmg hg args vals as hpre hlay hrd hwl hlo
    obtain ⟨K, KX, FK⟩ := Y
    refine Ground.open G ?_
    intro T B D TE TW
    try (refine guard_noD D (by decide +kernel) ?_; clear D)
    obtain ⟨zz, zz, M⟩ := bmod_of_top T
    try (obtain ⟨zz, zz, he, B0⟩ := based_of_top T rfl hmg ho hd; have he' : cd = _ := he; subst he'; clear he)
    clear hmg
    wrow_args hpre hlay hrd hwl hlo
    refine enter_call ?_
    w_top on
    refine codeAny_mono ?_ (fun zz zz g => GoodW.toG g)
    have K0 := below_caller (Top.heap T)
    w_call any ho hd hcd hD T F
    clear hd
    have hI := ‹IntsAre _ _›
    have hL := ‹Heap.IsList _ _ _›
    have T := ‹Top _ _ _ _ _ _›
    have F := ‹Fr _ _ _ _›
    have hlen := ‹¬ (_ < _)›
    obtain ⟨hl63, W, n, σ', hn, hrun⟩ := law_true' _ hlen
    refine' finish' (vs := _) (ns := _) T imp0 FK KX hL hI hl63 hrun ?hb ?hn ?hkind ?hg ?hbu ?hloc (Fr.keep F) ?hns ?ok ?hQ
    case hb => kernel_rfl
    case hn => kernel_rfl
    case hkind => exact rfl
    case hg => exact rfl
    case hbu => exact rfl
    case hloc => exact rfl
    case hns => exact Fr.ns F
    case ok =>
      refine ⟨rfl, ?_, ?_⟩
      · show callerA.depth + 1 + 4 * n + 8 ≤ 990
        rw [depth_caller]; omega
      · show callerA.units + 3 + 30 * n + 30 ≤ 9000
        have : callerA.units ≤ 1000 := by decide
        omega
    case hQ =>
      intro h' tk' hk
      dsimp only
      refine ⟨.inl ⟨.bool true, .bool true, [], rfl, fun zz => rfl, .bool true, ?_, ?_⟩, hk, rfl, ‹Shared.gens _ = #[]›⟩
      · kc_post
      · intro hu
        first | exact ⟨List.nodup_nil, fun a ha => (nomatch ha)⟩ | cases hu
end
